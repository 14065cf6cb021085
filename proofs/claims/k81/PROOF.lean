import PyProof.Rows.All
import HandS.ForMost
import HandS.Wide
import KE.SortData
import KE.DataMinMax
import HandS.IsInst
import PyProof.ReprRoads
import HandS.Deep
import PyProof.ReprBulk
import HandS.Style
import HandS.TupLe
import HandS.TupAny
import HandS.Strs
import HandS.TupSets
import HandS.Conv
import HandS.SortKw
import PySem.Challenge.RW_cutwright_k81_whole_days
set_option Elab.async false
set_option linter.all false
set_option maxRecDepth 100000
set_option Elab.async false
set_option linter.all false
set_option maxRecDepth 100000
namespace Z
open PySem PySem.Spec PyProof.Rows L2

abbrev Fg := PySem.W.Frag
def keyD : Key → PyData
  | .inl i => .int i
  | .inr s => .str s

mutual
inductive Rep (K : Fg) (F : Hp) : V → PyData → Prop
  | non : Rep K F .non .none
  | bl (b : Bool) : Rep K F (.bl b) (.bool b)
  | int (i : Int) : Rep K F (.int i) (.int i)
  | str (x : Str) : Rep K F (.str x) (.str x)
  | lst {a : Addr} {xs : List V} {ds : List PyData} : F a = some (.lst xs) → RepAll K F xs ds → Rep K F (.ref a) (.list ds)
  | tup {a : Addr} {xs : List V} {ds : List PyData} : SqT K F a xs → RepAll K F xs ds → Rep K F (.ref a) (.tuple ds)
  | dK {a : Addr} {kvs : List (Key × V)} {ds : List PyData} : Rd F a (.dK kvs) → RepAll K F (kvs.map (·.2)) ds → Rep K F (.ref a) (.dict ((kvs.map fun p => keyD p.1).zip ds))
  | dT {a : Addr} {kvs : List (List Key × V)} {ds : List PyData} : Rd F a (.dT kvs) → RepAll K F (kvs.map (·.2)) ds → Rep K F (.ref a) (.dict ((kvs.map fun p => PyData.tuple (p.1.map keyD)).zip ds))
inductive RepAll (K : Fg) (F : Hp) : List V → List PyData → Prop
  | nil : RepAll K F [] []
  | cons {v : V} {vs : List V} {d : PyData} {ds : List PyData} : Rep K F v d → RepAll K F vs ds → RepAll K F (v :: vs) (d :: ds)
end

theorem same_rd {F F' : Hp} (s : Same F F') {a : Addr} {u : HO} (h : Rd F a u) : Rd F' a u := by
  rcases h with h | ⟨o, h⟩
  · exact .inl (s _ _ h)
  · exact .inr ⟨o, s _ _ h⟩
theorem same_sqT {K : Fg} {F F' : Hp} (s : Same F F') {a : Addr} {xs : List V} (h : SqT K F a xs) : SqT K F' a xs := by
  rcases h with h | h
  · exact .inl (same_rd s h)
  · exact .inr h
mutual
theorem Rep.mono {K : Fg} {F F' : Hp} (s : Same F F') : ∀ {v : V} {d : PyData}, Rep K F v d → Rep K F' v d
  | _, _, .non => .non
  | _, _, .bl b => .bl b
  | _, _, .int i => .int i
  | _, _, .str x => .str x
  | _, _, .lst h r => .lst (s _ _ h) (RepAll.mono s r)
  | _, _, .tup h r => .tup (same_sqT s h) (RepAll.mono s r)
  | _, _, .dK h r => .dK (same_rd s h) (RepAll.mono s r)
  | _, _, .dT h r => .dT (same_rd s h) (RepAll.mono s r)
theorem RepAll.mono {K : Fg} {F F' : Hp} (s : Same F F') : ∀ {vs : List V} {ds : List PyData}, RepAll K F vs ds → RepAll K F' vs ds
  | _, _, .nil => .nil
  | _, _, .cons h r => .cons (Rep.mono s h) (RepAll.mono s r)
end
theorem RepAll.length {K : Fg} {F : Hp} : ∀ {vs : List V} {ds : List PyData}, RepAll K F vs ds → vs.length = ds.length
  | _, _, .nil => rfl
  | _, _, .cons _ r => congrArg (· + 1) (RepAll.length r)
theorem RepAll.app {K : Fg} {F : Hp} : ∀ {vs ws : List V} {ds es : List PyData}, RepAll K F vs ds → RepAll K F ws es → RepAll K F (vs ++ ws) (ds ++ es)
  | _, _, _, _, .nil, q => q
  | _, _, _, _, .cons h r, q => .cons h (RepAll.app r q)
theorem RepAll.get {K : Fg} {F : Hp} : ∀ {vs : List V} {ds : List PyData} {i : Nat} {d : PyData}, RepAll K F vs ds → ds[i]? = some d → ∃ v, vs[i]? = some v ∧ Rep K F v d
  | _, _, _, _, .nil, e => by simp at e
  | _, _, 0, _, .cons h _, e => ⟨_, rfl, by simp at e; exact e ▸ h⟩
  | _, _, i + 1, _, .cons _ r, e => by
    obtain ⟨v, h1, h2⟩ := RepAll.get (i := i) r (by simpa using e)
    exact ⟨v, by simpa using h1, h2⟩
theorem RepAll.getv {K : Fg} {F : Hp} : ∀ {vs : List V} {ds : List PyData} {i : Nat} {v : V}, RepAll K F vs ds → vs[i]? = some v → ∃ d, ds[i]? = some d ∧ Rep K F v d
  | _, _, _, _, .nil, e => by simp at e
  | _, _, 0, _, .cons h _, e => ⟨_, rfl, by simp at e; exact e ▸ h⟩
  | _, _, i + 1, _, .cons _ r, e => by
    obtain ⟨v, h1, h2⟩ := RepAll.getv (i := i) r (by simpa using e)
    exact ⟨v, by simpa using h1, h2⟩
theorem RepAll.set {K : Fg} {F : Hp} {v : V} {d : PyData} (h : Rep K F v d) : ∀ {vs : List V} {ds : List PyData} {i : Nat}, RepAll K F vs ds → RepAll K F (vs.set i v) (ds.set i d)
  | _, _, _, .nil => .nil
  | _, _, 0, .cons _ r => .cons h r
  | _, _, i + 1, .cons q r => .cons q (RepAll.set h r)
theorem RepAll.take {K : Fg} {F : Hp} : ∀ {vs : List V} {ds : List PyData} (n : Nat), RepAll K F vs ds → RepAll K F (vs.take n) (ds.take n)
  | _, _, 0, _ => .nil
  | _, _, _ + 1, .nil => .nil
  | _, _, n + 1, .cons h r => .cons h (RepAll.take n r)
theorem RepAll.drop {K : Fg} {F : Hp} : ∀ {vs : List V} {ds : List PyData} (n : Nat), RepAll K F vs ds → RepAll K F (vs.drop n) (ds.drop n)
  | _, _, 0, r => r
  | _, _, _ + 1, .nil => .nil
  | _, _, n + 1, .cons _ r => RepAll.drop n r

/-! ### what a value of Lean stands for -/
structure Enc (τ : Type) where
  enc : τ → PyData
  inj : ∀ a b, enc a = enc b → a = b
def eI : Enc Int := ⟨.int, fun _ _ h => by injection h⟩
def eB : Enc Bool := ⟨.bool, fun _ _ h => by injection h⟩
def eS : Enc Str := ⟨.str, fun _ _ h => by injection h⟩
def eN : Enc Unit := ⟨fun _ => .none, fun _ _ _ => rfl⟩
def eD : Enc PyData := ⟨id, fun _ _ h => h⟩
theorem map_inj {α β : Type} {f : α → β} (h : ∀ a b, f a = f b → a = b) : ∀ {xs ys : List α}, xs.map f = ys.map f → xs = ys
  | [], [], _ => rfl
  | [], _ :: _, e => by simp at e
  | _ :: _, [], e => by simp at e
  | x :: xs, y :: ys, e => by
    simp only [List.map_cons, List.cons.injEq] at e
    rw [h _ _ e.1, map_inj h e.2]
def eL {τ : Type} (E : Enc τ) : Enc (List τ) := ⟨fun xs => .list (xs.map E.enc), fun _ _ h => map_inj E.inj (by injection h)⟩
def eV {τ : Type} (E : Enc τ) : Enc (List τ) := ⟨fun xs => .tuple (xs.map E.enc), fun _ _ h => map_inj E.inj (by injection h)⟩
def eT2 {α β : Type} (A : Enc α) (B : Enc β) : Enc (α × β) := ⟨fun p => .tuple [A.enc p.1, B.enc p.2], fun a b h => by
  injection h with h
  simp only [List.cons.injEq, and_true] at h
  exact Prod.ext (A.inj _ _ h.1) (B.inj _ _ h.2)⟩
def eT3 {α β γ : Type} (A : Enc α) (B : Enc β) (G : Enc γ) : Enc (α × β × γ) := ⟨fun p => .tuple [A.enc p.1, B.enc p.2.1, G.enc p.2.2], fun a b h => by
  injection h with h
  simp only [List.cons.injEq, and_true] at h
  exact Prod.ext (A.inj _ _ h.1) (Prod.ext (B.inj _ _ h.2.1) (G.inj _ _ h.2.2))⟩
def eT4 {α β γ δ : Type} (A : Enc α) (B : Enc β) (G : Enc γ) (D : Enc δ) : Enc (α × β × γ × δ) := ⟨fun p => .tuple [A.enc p.1, B.enc p.2.1, G.enc p.2.2.1, D.enc p.2.2.2], fun a b h => by
  injection h with h
  simp only [List.cons.injEq, and_true] at h
  exact Prod.ext (A.inj _ _ h.1) (Prod.ext (B.inj _ _ h.2.1) (Prod.ext (G.inj _ _ h.2.2.1) (D.inj _ _ h.2.2.2)))⟩
def eT5 {α β γ δ ε : Type} (A : Enc α) (B : Enc β) (G : Enc γ) (D : Enc δ) (E : Enc ε) : Enc (α × β × γ × δ × ε) := ⟨fun p => .tuple [A.enc p.1, B.enc p.2.1, G.enc p.2.2.1, D.enc p.2.2.2.1, E.enc p.2.2.2.2], fun a b h => by
  injection h with h
  simp only [List.cons.injEq, and_true] at h
  exact Prod.ext (A.inj _ _ h.1) (Prod.ext (B.inj _ _ h.2.1) (Prod.ext (G.inj _ _ h.2.2.1) (Prod.ext (D.inj _ _ h.2.2.2.1) (E.inj _ _ h.2.2.2.2))))⟩
def eO {τ : Type} (E : Enc τ) (hn : ∀ a, E.enc a ≠ .none) : Enc (Option τ) := ⟨fun o => match o with | none => .none | some a => E.enc a, fun a b h => by
  cases a <;> cases b
  · rfl
  · exact absurd h.symm (hn _)
  · exact absurd h (hn _)
  · exact congrArg some (E.inj _ _ h)⟩

/-! ### how a slot holds a value: shared data, or objects of its own -/
def grow (F H : Hp) (fp : List Addr) : Hp := fun a => if a ∈ fp then H a else F a
structure Stor (τ : Type) where
  rel : Fg → Hp → Hp → List Addr → V → τ → Prop
  monoF : ∀ {K F F' H fp v x}, Same F F' → rel K F H fp v x → rel K F' H fp v x
  frame : ∀ {K F H H' fp v x}, (∀ a ∈ fp, H' a = H a) → rel K F H fp v x → rel K F H' fp v x
/-- it may be made shared data -/
structure Frz {τ : Type} (S : Stor τ) (E : Enc τ) : Prop where
  frz : ∀ {K F H fp v x}, (∀ a ∈ fp, F a = none) → S.rel K F H fp v x → Rep K (grow F H fp) v (E.enc x)
/-- it owns nothing: it may be told twice -/
structure Cp {τ : Type} (S : Stor τ) : Prop where
  nil : ∀ {K F H fp v x}, S.rel K F H fp v x → fp = []
theorem grow_nil {F H : Hp} : grow F H [] = F := by funext a; simp [grow]
theorem same_grow {F H : Hp} {fp : List Addr} (h : ∀ a ∈ fp, F a = none) : Same F (grow F H fp) := fun a o e => by
  unfold grow
  by_cases m : a ∈ fp
  · rw [h a m] at e; cases e
  · rw [if_neg m]; exact e
theorem grow_sub {F H : Hp} {fp fq : List Addr} (h : ∀ a ∈ fq, F a = none) (s : ∀ a ∈ fp, a ∈ fq) : Same (grow F H fp) (grow F H fq) := fun a o e => by
  unfold grow at e ⊢
  by_cases m : a ∈ fp
  · rw [if_pos m] at e; rw [if_pos (s a m)]; exact e
  · rw [if_neg m] at e
    by_cases m' : a ∈ fq
    · rw [h a m'] at e; cases e
    · rw [if_neg m']; exact e
def it {τ : Type} (E : Enc τ) : Stor τ where
  rel := fun K F _ fp v x => fp = [] ∧ Rep K F v (E.enc x)
  monoF := fun s h => ⟨h.1, h.2.mono s⟩
  frame := fun _ h => h
theorem fz_it {τ : Type} {E : Enc τ} : Frz (it E) E := ⟨fun _ h => by obtain ⟨rfl, r⟩ := h; rw [grow_nil]; exact r⟩
theorem cp_it {τ : Type} {E : Enc τ} : Cp (it E) := ⟨fun h => h.1⟩
/-- a list of ints that stands for good (the script) -/
def scr : Stor (List Int) where
  rel := fun K F _ fp v xs => fp = [] ∧ ∃ a, v = .ref a ∧ SqL K F a (xs.map V.int)
  monoF := fun s h => by obtain ⟨e, a, e2, q⟩ := h; exact ⟨e, a, e2, s.seq q⟩
  frame := fun _ h => h
theorem cp_scr : Cp scr := ⟨fun h => h.1⟩
inductive RelAll {τ : Type} (R : List Addr → V → τ → Prop) : List Addr → List V → List τ → Prop
  | nil : RelAll R [] [] []
  | cons {fp fps v vs x xs} : R fp v x → RelAll R fps vs xs → RelAll R (fp ++ fps) (v :: vs) (x :: xs)
theorem RelAll.imp {τ : Type} {R R' : List Addr → V → τ → Prop} : ∀ {fp : List Addr} {vs : List V} {xs : List τ}, (∀ fq v x, (∀ a ∈ fq, a ∈ fp) → R fq v x → R' fq v x) → RelAll R fp vs xs → RelAll R' fp vs xs
  | _, _, _, _, .nil => .nil
  | _, _, _, f, .cons h r => .cons (f _ _ _ (fun a m => List.mem_append_left _ m) h) (RelAll.imp (fun fq v x s q => f fq v x (fun a m => List.mem_append_right _ (s a m)) q) r)
theorem RelAll.rep {τ : Type} {E : Enc τ} {K : Fg} {F : Hp} {R : List Addr → V → τ → Prop} : ∀ {fp : List Addr} {vs : List V} {xs : List τ}, (∀ fq v x, (∀ a ∈ fq, a ∈ fp) → R fq v x → Rep K F v (E.enc x)) → RelAll R fp vs xs → RepAll K F vs (xs.map E.enc)
  | _, _, _, _, .nil => .nil
  | _, _, _, f, .cons h r => .cons (f _ _ _ (fun a m => List.mem_append_left _ m) h) (RelAll.rep (fun fq v x s q => f fq v x (fun a m => List.mem_append_right _ (s a m)) q) r)
def ls {τ : Type} (S : Stor τ) : Stor (List τ) where
  rel := fun K F H fp v xs => ∃ p vs fps, v = .ref p ∧ H p = some (.lst vs) ∧ RelAll (S.rel K F H) fps vs xs ∧ fp = p :: fps
  monoF := fun s h => by
    obtain ⟨p, vs, fps, rfl, hp, r, rfl⟩ := h
    exact ⟨p, vs, fps, rfl, hp, r.imp fun _ _ _ _ q => S.monoF s q, rfl⟩
  frame := fun f h => by
    obtain ⟨p, vs, fps, rfl, hp, r, rfl⟩ := h
    exact ⟨p, vs, fps, rfl, by rw [f p List.mem_cons_self]; exact hp, r.imp fun fq _ _ s q => S.frame (fun a m => f a (List.mem_cons_of_mem _ (s a m))) q, rfl⟩
theorem fz_ls {τ : Type} {S : Stor τ} {E : Enc τ} (fz : Frz S E) : Frz (ls S) (eL E) := ⟨fun n h => by
  obtain ⟨p, vs, fps, rfl, hp, r, rfl⟩ := h
  refine .lst ?_ (r.rep fun fq v x s q => ?_)
  · show (if p ∈ p :: fps then _ else _) = _
    rw [if_pos List.mem_cons_self]; exact hp
  · exact (fz.frz (fun a m => n a (List.mem_cons_of_mem _ (s a m))) q).mono (grow_sub n fun a m => List.mem_cons_of_mem _ (s a m))⟩

inductive Slot : Type 1
  | un
  | st (w : Option V) (τ : Type) (S : Stor τ) (x : τ)
  | lk (τ : Type) (S : Stor τ) (x : τ)
abbrev Env := List Slot
abbrev Slot.sh {τ : Type} (E : Enc τ) (x : τ) : Slot := .st none τ (it E) x
abbrev Slot.ow {τ : Type} (S : Stor τ) (x : τ) : Slot := .st none τ S x

structure Ck where
  K : Fg
  B : Hp
  F0 : Hp
  He : Hp
  io : List Addr
def SlotOk (C : Ck) (F H : Hp) (o : Option V) : Slot → List Addr → Prop
  | .un, fp => fp = []
  | .st w _ S x, fp => ∃ v, o = some v ∧ S.rel C.K F H fp v x ∧ (match w with | none => ∀ a ∈ fp, C.He a = none | some v0 => v = v0 ∧ ∀ a ∈ fp, C.He a = none ∨ a ∈ C.io)
  | .lk _ S x, fp => fp = [] ∧ ∃ v fq, o = some v ∧ S.rel C.K F H fq v x ∧ ∀ a ∈ fq, C.B a ≠ none
theorem SlotOk.go {C : Ck} {F F' H H' : Hp} {o : Option V} {s : Slot} {fp : List Addr} (sF : Same F F') (hB : ∀ a, C.B a ≠ none → H' a = H a) (h : ∀ a ∈ fp, H' a = H a) (k : SlotOk C F H o s fp) : SlotOk C F' H' o s fp := by
  cases s with
  | un => exact k
  | st w τ S x => obtain ⟨v, e, r, q⟩ := k; exact ⟨v, e, S.monoF sF (S.frame h r), q⟩
  | lk τ S x => obtain ⟨e, v, fq, e2, r, q⟩ := k; exact ⟨e, v, fq, e2, S.monoF sF (S.frame (fun a m => hB a (q a m)) r), q⟩
/-- the footprints of the slots -/
structure Fps (C : Ck) (F H : Hp) (σ : List (Option V)) (env : Env) (fp : Nat → List Addr) : Prop where
  ok : ∀ i s, env[i]? = some s → SlotOk C F H (σ[i]?.join) s (fp i)
  own : ∀ i, i < env.length → ∀ a ∈ fp i, C.B a = none ∧ F a = none ∧ H a ≠ none
  sep : ∀ i j, i < env.length → j < env.length → ∀ a, a ∈ fp i → a ∈ fp j → i = j
  nd : ∀ i, i < env.length → (fp i).Nodup
structure ER (C : Ck) (F H : Hp) (σ : List (Option V)) (env : Env) : Prop where
  sB : Same C.B H
  sF : Same F H
  gr : ∀ a, F a ≠ none → C.F0 a ≠ none ∨ C.He a = none
  up : ∀ a, C.He a ≠ none → H a ≠ none
  len : σ.length = env.length
  sl : ∃ fp, Fps C F H σ env fp

section
variable {C : Ck} {F F' H H' : Hp} {σ : List (Option V)} {env : Env} {o : Option V} {s : Slot} {τ : Type} {S : Stor τ} {E : Enc τ} {x : τ} {v : V} {w : Option V} {i : Nat} {p : Addr} {u : HO}
theorem same_some {H H' : Hp} (s : Same H H') {a : Addr} (h : H a ≠ none) : H' a ≠ none := by
  cases e : H a with
  | none => exact absurd e h
  | some o => rw [s a o e]; exact fun z => by cases z
theorem same_eq {H H' : Hp} (s : Same H H') {a : Addr} (h : H a ≠ none) : H' a = H a := by
  cases e : H a with
  | none => exact absurd e h
  | some o => exact s a o e
theorem ER.look (h : ER C F H σ env) (e : env[i]? = some (.st w τ S x)) : ∃ v fp, σ[i]? = some (some v) ∧ S.rel C.K F H fp v x := by
  obtain ⟨fp, q⟩ := h.sl
  obtain ⟨v, e1, r, _⟩ := q.ok i _ e
  refine ⟨v, fp i, ?_, r⟩
  cases z : σ[i]? with
  | none => rw [z] at e1; cases e1
  | some o => rw [z] at e1; exact congrArg some e1
theorem ER.lookK (h : ER C F H σ env) (e : env[i]? = some (.lk τ S x)) : ∃ v fp, σ[i]? = some (some v) ∧ S.rel C.K F H fp v x := by
  obtain ⟨fp, q⟩ := h.sl
  obtain ⟨_, v, fq, e1, r, _⟩ := q.ok i _ e
  refine ⟨v, fq, ?_, r⟩
  cases z : σ[i]? with
  | none => rw [z] at e1; cases e1
  | some o => rw [z] at e1; exact congrArg some e1
theorem ER.rep (h : ER C F H σ env) (e : env[i]? = some (.st w τ (it E) x)) : ∃ v, σ[i]? = some (some v) ∧ Rep C.K F v (E.enc x) := by
  obtain ⟨v, fp, e1, r⟩ := h.look e
  exact ⟨v, e1, r.2⟩
theorem Fps.push {fp : Nat → List Addr} (q : Fps C F H σ env fp) {fq : List Addr} (ok : SlotOk C F H o s fq) (ow : ∀ a ∈ fq, C.B a = none ∧ F a = none ∧ H a ≠ none) (nd : fq.Nodup) (df : ∀ i, i < env.length → ∀ a ∈ fp i, a ∉ fq) :
    Fps C F H (o :: σ) (s :: env) (fun | 0 => fq | i + 1 => fp i) := by
  refine ⟨?_, ?_, ?_, ?_⟩
  · intro i s' e
    cases i with
    | zero => simp at e; subst e; exact ok
    | succ i => exact q.ok i s' (by simpa using e)
  · intro i hi a ha
    cases i with
    | zero => exact ow a ha
    | succ i => exact q.own i (by simpa using hi) a ha
  · intro i j hi hj a ha hb
    cases i with
    | zero => cases j with
      | zero => rfl
      | succ j => exact absurd ha (df j (by simpa using hj) a hb)
    | succ i => cases j with
      | zero => exact absurd hb (df i (by simpa using hi) a ha)
      | succ j => exact congrArg (· + 1) (q.sep i j (by simpa using hi) (by simpa using hj) a ha hb)
  · intro i hi
    cases i with
    | zero => exact nd
    | succ i => exact q.nd i (by simpa using hi)
theorem ER.push0 (h : ER C F H σ env) (ok : SlotOk C F H o s []) : ER C F H (o :: σ) (s :: env) := by
  obtain ⟨fp, q⟩ := h.sl
  exact ⟨h.sB, h.sF, h.gr, h.up, by simp [h.len], _, q.push ok (fun _ m => nomatch m) List.nodup_nil fun _ _ _ _ m => nomatch m⟩
theorem ER.pushSh (h : ER C F H σ env) (r : Rep C.K F v (E.enc x)) : ER C F H (some v :: σ) (.st none τ (it E) x :: env) :=
  h.push0 ⟨v, rfl, ⟨rfl, r⟩, fun _ m => nomatch m⟩
theorem ER.pushUn (h : ER C F H σ env) : ER C F H (o :: σ) (.un :: env) := h.push0 rfl
theorem ER.pop (h : ER C F H (o :: σ) (s :: env)) : ER C F H σ env := by
  obtain ⟨fp, q⟩ := h.sl
  exact ⟨h.sB, h.sF, h.gr, h.up, by simpa using h.len, fun i => fp (i + 1), fun i s e => q.ok (i + 1) s (by simpa using e), fun i hi => q.own (i + 1) (by simpa using hi),
    fun i j hi hj a ha hb => Nat.succ.inj (q.sep (i + 1) (j + 1) (by simpa using hi) (by simpa using hj) a ha hb), fun i hi => q.nd (i + 1) (by simpa using hi)⟩
theorem ER.popN : ∀ {vs : List (Option V)} {es : Env}, vs.length = es.length → ER C F H (vs ++ σ) (es ++ env) → ER C F H σ env
  | [], [], _, h => h
  | [], _ :: _, e, _ => by simp at e
  | _ :: _, [], e, _ => by simp at e
  | _ :: vs, _ :: es, e, h => ER.popN (vs := vs) (es := es) (by simpa using e) h.pop
theorem Fps.grow {fp : Nat → List Addr} (h : ER C F H σ env) (q : Fps C F H σ env fp) (sH : Same H H') (sF : Same F F') (n : ∀ a, F' a ≠ none → F a ≠ none ∨ H a = none) : Fps C F' H' σ env fp := by
  refine ⟨fun i s e => ?_, fun i hi a ha => ?_, q.sep, q.nd⟩
  · refine (q.ok i s e).go sF (fun a m => same_eq sH (same_some h.sB m)) fun a ha => same_eq sH ?_
    exact (q.own i (by obtain ⟨hi, _⟩ := List.getElem?_eq_some_iff.mp e; exact hi) a ha).2.2
  · obtain ⟨b, f, c⟩ := q.own i hi a ha
    refine ⟨b, ?_, same_some sH c⟩
    cases e : F' a with
    | none => rfl
    | some o =>
      rcases n a (by rw [e]; exact fun z => by cases z) with z | z
      · exact absurd f z
      · exact absurd z c
/-- the heap grows by objects that no slot holds; what is frozen may grow by new ones -/
theorem ER.grow (h : ER C F H σ env) (sH : Same H H') (sF : Same F F') (sF' : Same F' H') (n : ∀ a, F' a ≠ none → F a ≠ none ∨ H a = none) : ER C F' H' σ env := by
  obtain ⟨fp, q⟩ := h.sl
  refine ⟨fun a o e => sH a o (h.sB a o e), sF', fun a m => ?_, fun a m => same_some sH (h.up a m), h.len, fp, q.grow h sH sF n⟩
  rcases n a m with z | z
  · exact h.gr a z
  · refine .inr ?_
    cases e : C.He a with
    | none => rfl
    | some o => exact absurd z (h.up a (by rw [e]; exact fun z => by cases z))
theorem same_new (n : H p = none) : Same H (upd H p u) := fun b o e => by rw [upd_ne (ne_of_none e n)]; exact e
theorem ER.fnone (h : ER C F H σ env) (n : H p = none) : F p = none := by
  cases e : F p with
  | none => rfl
  | some o => rw [h.sF p o e] at n; cases n
theorem ER.bnone (h : ER C F H σ env) (n : H p = none) : C.B p = none := by
  cases e : C.B p with
  | none => rfl
  | some o => rw [h.sB p o e] at n; cases n
theorem ER.hnone (h : ER C F H σ env) (n : H p = none) : C.He p = none := by
  cases e : C.He p with
  | none => rfl
  | some o => exact absurd n (h.up p (by rw [e]; exact fun z => by cases z))
theorem ER.newF (h : ER C F H σ env) (n : H p = none) : ER C (upd F p u) (upd H p u) σ env := by
  refine h.grow (same_new n) (same_new (h.fnone n)) (fun a o e => ?_) fun a m => ?_
  · by_cases z : a = p
    · subst z; rw [upd_same] at e ⊢; exact e
    · rw [upd_ne z] at e ⊢; exact h.sF a o e
  · by_cases z : a = p
    · subst z; exact .inr n
    · rw [upd_ne z] at m; exact .inl m
theorem ER.newH (h : ER C F H σ env) (n : H p = none) : ER C F (upd H p u) σ env :=
  h.grow (same_new n) (fun _ _ e => e) (fun a o e => same_new n a o (h.sF a o e)) fun a m => .inl m
/-- a new object of one's own -/
theorem ER.newOw (h : ER C F H σ env) (n : H p = none) (r : S.rel C.K F (upd H p u) [p] v x) : ER C F (upd H p u) (some v :: σ) (.st none τ S x :: env) := by
  have h' := h.newH (u := u) n
  obtain ⟨fp, q⟩ := h.sl
  have q' := q.grow h (same_new (u := u) n) (fun _ _ e => e) fun a m => .inl m
  refine ⟨h'.sB, h'.sF, h'.gr, h'.up, by simp [h'.len], _, q'.push (fq := [p]) ⟨v, rfl, r, fun a m => ?_⟩ (fun a m => ?_) (by simp) fun i hi a ha m => ?_⟩
  · simp at m; subst m; exact h.hnone n
  · simp at m; subst m; exact ⟨h.bnone n, h.fnone n, by rw [upd_same]; exact fun z => by cases z⟩
  · simp at m; subst m; exact (q.own i hi a ha).2.2 n
/-- a slot's objects are changed by themselves -/
theorem ER.mut (h : ER C F H σ env) (e : env[i]? = some (.st w τ S x)) : ∃ v fp, σ[i]? = some (some v) ∧ S.rel C.K F H fp v x ∧ fp.Nodup ∧ (∀ a ∈ fp, C.B a = none ∧ F a = none ∧ H a ≠ none) ∧
    ∀ (τ' : Type) (S' : Stor τ') (x' : τ') (H' : Hp) (fp' : List Addr), (∀ a, a ∉ fp → H a ≠ none → H' a = H a) → (∀ a, H a ≠ none → H' a ≠ none) → S'.rel C.K F H' fp' v x' → fp'.Nodup → (∀ a ∈ fp', H' a ≠ none ∧ (a ∈ fp ∨ H a = none)) → ER C F H' σ (env.set i (.st w τ' S' x')) := by
  obtain ⟨fp, q⟩ := h.sl
  obtain ⟨hi, _⟩ := List.getElem?_eq_some_iff.mp e
  obtain ⟨v, e1, r, k⟩ := q.ok i _ e
  have e1' : σ[i]? = some (some v) := by
    cases z : σ[i]? with
    | none => rw [z] at e1; cases e1
    | some o => rw [z] at e1; exact congrArg some e1
  refine ⟨v, fp i, e1', r, q.nd i hi, q.own i hi, fun τ' S' x' H' fp' hk hs r' nd' sub => ?_⟩
  have bne : ∀ a, C.B a ≠ none → a ∉ fp i := fun a m z => m (q.own i hi a z).1
  refine ⟨fun a o m => ?_, fun a o m => ?_, h.gr, fun a m => hs a (h.up a m), by simp [h.len], fun j => if j = i then fp' else fp j, fun j s' ej => ?_, fun j hj a ha => ?_, fun j l hj hl a ha hb => ?_, fun j hj => ?_⟩
  · have m' : C.B a ≠ none := by rw [m]; exact fun z => by cases z
    rw [hk a (bne a m') (same_some h.sB m')]; exact h.sB a o m
  · have m' : F a ≠ none := by rw [m]; exact fun z => by cases z
    rw [hk a (fun z => m' (q.own i hi a z).2.1) (same_some h.sF m')]; exact h.sF a o m
  · by_cases z : j = i
    · subst z
      rw [List.getElem?_set_self hi] at ej
      cases ej
      refine ⟨v, e1, ?_, ?_⟩
      · simpa using r'
      · simp only [if_pos]
        cases w with
        | none =>
          intro a ha
          rcases (sub a ha).2 with m | m
          · exact k a m
          · exact h.hnone m
        | some v0 =>
          refine ⟨k.1, fun a ha => ?_⟩
          rcases (sub a ha).2 with m | m
          · exact k.2 a m
          · exact .inl (h.hnone m)
    · rw [List.getElem?_set_ne (fun y => z y.symm)] at ej
      have hj : j < env.length := (List.getElem?_eq_some_iff.mp ej).1
      simp only [if_neg z]
      refine (q.ok j s' ej).go (fun _ _ y => y) (fun a m => hk a (bne a m) (same_some h.sB m)) fun a ha => ?_
      exact hk a (fun y => z (q.sep j i hj hi a ha y)) (q.own j hj a ha).2.2
  · have hj' : j < env.length := by simpa using hj
    by_cases z : j = i
    · subst z
      simp only [if_pos] at ha
      obtain ⟨m1, m⟩ := sub a ha
      rcases m with m | m
      · exact ⟨(q.own j hi a m).1, (q.own j hi a m).2.1, m1⟩
      · exact ⟨h.bnone m, h.fnone m, m1⟩
    · simp only [if_neg z] at ha
      obtain ⟨b, f, c⟩ := q.own j hj' a ha
      exact ⟨b, f, hs a c⟩
  · have hj' : j < env.length := by simpa using hj
    have hl' : l < env.length := by simpa using hl
    by_cases zj : j = i
    · by_cases zl : l = i
      · rw [zj, zl]
      · simp only [if_pos zj] at ha
        simp only [if_neg zl] at hb
        rcases (sub a ha).2 with m | m
        · rw [zj]; exact q.sep i l hi hl' a m hb
        · exact absurd m (q.own l hl' a hb).2.2
    · simp only [if_neg zj] at ha
      by_cases zl : l = i
      · simp only [if_pos zl] at hb
        rcases (sub a hb).2 with m | m
        · rw [zl]; exact q.sep j i hj' hi a ha m
        · exact absurd m (q.own j hj' a ha).2.2
      · simp only [if_neg zl] at hb
        exact q.sep j l hj' hl' a ha hb
  · have hj' : j < env.length := by simpa using hj
    by_cases z : j = i
    · simp only [if_pos z]; exact nd'
    · simp only [if_neg z]; exact q.nd j hj'
/-- what a slot owns is frozen: from here on it is shared -/
theorem ER.freeze (h : ER C F H σ env) (fz : Frz S E) (e : env[i]? = some (.st none τ S x)) : ∃ F', Same F F' ∧ ER C F' H σ (env.set i (.st none τ (it E) x)) := by
  obtain ⟨fp, q⟩ := h.sl
  obtain ⟨hi, _⟩ := List.getElem?_eq_some_iff.mp e
  obtain ⟨v, e1, r, k⟩ := q.ok i _ e
  have fn : ∀ a ∈ fp i, F a = none := fun a m => (q.own i hi a m).2.1
  have sF : Same F (Z.grow F H (fp i)) := same_grow fn
  have bne : ∀ a, C.B a ≠ none → a ∉ fp i := fun a m z => m (q.own i hi a z).1
  refine ⟨Z.grow F H (fp i), sF, h.sB, fun a o m => ?_, fun a m => ?_, h.up, by simp [h.len], fun j => if j = i then [] else fp j, fun j s' ej => ?_, fun j hj a ha => ?_, fun j l hj hl a ha hb => ?_, fun j hj => ?_⟩
  · unfold Z.grow at m
    by_cases z : a ∈ fp i
    · rw [if_pos z] at m; exact m
    · rw [if_neg z] at m; exact h.sF a o m
  · unfold Z.grow at m
    by_cases z : a ∈ fp i
    · exact .inr (k a z)
    · rw [if_neg z] at m; exact h.gr a m
  · by_cases z : j = i
    · subst z
      rw [List.getElem?_set_self hi] at ej
      cases ej
      simp only [if_pos]
      exact ⟨v, e1, ⟨rfl, fz.frz fn r⟩, fun _ m => nomatch m⟩
    · rw [List.getElem?_set_ne (fun y => z y.symm)] at ej
      simp only [if_neg z]
      exact (q.ok j s' ej).go sF (fun a m => rfl) fun a ha => rfl
  · have hj' : j < env.length := by simpa using hj
    by_cases z : j = i
    · simp [if_pos z] at ha
    · simp only [if_neg z] at ha
      obtain ⟨b, f, c⟩ := q.own j hj' a ha
      refine ⟨b, ?_, c⟩
      unfold Z.grow
      rw [if_neg (fun y => z (q.sep j i hj' hi a ha y))]; exact f
  · have hj' : j < env.length := by simpa using hj
    have hl' : l < env.length := by simpa using hl
    by_cases zj : j = i
    · simp [if_pos zj] at ha
    · by_cases zl : l = i
      · simp [if_pos zl] at hb
      · simp only [if_neg zj] at ha
        simp only [if_neg zl] at hb
        exact q.sep j l hj' hl' a ha hb
  · have hj' : j < env.length := by simpa using hj
    by_cases z : j = i
    · simp [if_pos z]
    · simp only [if_neg z]; exact q.nd j hj'
/-- slots renamed: f tells where each new slot stood; each is taken once or owns nothing -/
theorem ER.perm {σ' : List (Option V)} {env' : Env} (h : ER C F H σ env) (len : σ'.length = env'.length) (f : Nat → Nat)
    (hf : ∀ j s', env'[j]? = some s' → s' = .un ∨ (env[f j]? = some s' ∧ σ'[j]?.join = σ[f j]?.join ∧ ∀ l s'', env'[l]? = some s'' → s'' ≠ .un → f l = f j → l = j)) : ER C F H σ' env' := by
  classical
  obtain ⟨fp, q⟩ := h.sl
  refine ⟨h.sB, h.sF, h.gr, h.up, len, fun j => match env'[j]? with | some .un => [] | some _ => fp (f j) | none => [], fun j s' ej => ?_, fun j hj a ha => ?_, fun j l hj hl a ha hb => ?_, fun j hj => ?_⟩
  · simp only [ej]
    rcases hf j s' ej with rfl | ⟨e, eo, _⟩
    · exact rfl
    · have := q.ok (f j) s' e
      rw [← eo] at this
      cases s' with
      | un => exact rfl
      | st _ _ _ _ => exact this
      | lk _ _ _ => exact this
  · cases ej : env'[j]? with
    | none => rw [ej] at ha; cases ha
    | some s' =>
      rcases hf j s' ej with rfl | ⟨e, eo, _⟩
      · rw [ej] at ha; cases ha
      · have ha' : a ∈ fp (f j) := by
          rw [ej] at ha
          cases s' with
          | un => cases ha
          | st _ _ _ _ => exact ha
          | lk _ _ _ => exact ha
        exact q.own (f j) (List.getElem?_eq_some_iff.mp e).1 a ha'
  · cases ej : env'[j]? with
    | none => rw [ej] at ha; cases ha
    | some s' =>
      cases el : env'[l]? with
      | none => rw [el] at hb; cases hb
      | some s'' =>
        rcases hf j s' ej with rfl | ⟨e, eo, u⟩
        · rw [ej] at ha; cases ha
        · rcases hf l s'' el with rfl | ⟨e2, eo2, u2⟩
          · rw [el] at hb; cases hb
          · have ha' : a ∈ fp (f j) := by
              rw [ej] at ha
              cases s' with
              | un => cases ha
              | st _ _ _ _ => exact ha
              | lk _ _ _ => exact ha
            have hb' : a ∈ fp (f l) := by
              rw [el] at hb
              cases s'' with
              | un => cases hb
              | st _ _ _ _ => exact hb
              | lk _ _ _ => exact hb
            have hne : s'' ≠ .un := by
              rintro rfl
              rw [el] at hb; cases hb
            exact (u l s'' el hne (q.sep _ _ (List.getElem?_eq_some_iff.mp e2).1 (List.getElem?_eq_some_iff.mp e).1 a hb' ha')).symm
  · show (match env'[j]? with | some .un => [] | some _ => fp (f j) | none => []).Nodup
    cases ej : env'[j]? with
    | none => exact List.nodup_nil
    | some s' =>
      rcases hf j s' ej with rfl | ⟨e, eo, _⟩
      · exact List.nodup_nil
      · have := q.nd (f j) (List.getElem?_eq_some_iff.mp e).1
        cases s' with
        | un => exact List.nodup_nil
        | st _ _ _ _ => exact this
        | lk _ _ _ => exact this
end
end Z

set_option Elab.async false
set_option linter.all false
set_option maxRecDepth 100000
namespace Z
open PySem PySem.Spec PyProof.Rows L2

section
variable {C : Ck} {F F' H H' : Hp} {σ σs σ' : List (Option V)} {env es env' : Env} {o : Option V} {s : Slot} {τ : Type} {S : Stor τ} {E : Enc τ} {x : τ} {v : V} {w : Option V} {i : Nat} {p : Addr} {u : HO}
theorem at_app {α : Type _} {as bs : List α} {i : Nat} (n : Nat) (h : as.length = n) : (as ++ bs)[n + i]? = bs[i]? := by
  subst h; rw [List.getElem?_append_right (Nat.le_add_right _ _), Nat.add_sub_cancel_left]
theorem ER.lookF (h : ER C F H (σs ++ σ) (es ++ env)) (hl : σs.length = es.length) (e : env[i]? = some (.st w τ S x)) : ∃ v fp, σ[i]? = some (some v) ∧ S.rel C.K F H fp v x := by
  obtain ⟨v, fp, a, b⟩ := h.look (i := es.length + i) (by rw [at_app _ rfl]; exact e)
  exact ⟨v, fp, by rw [at_app _ hl] at a; exact a, b⟩
theorem ER.lookKF (h : ER C F H (σs ++ σ) (es ++ env)) (hl : σs.length = es.length) (e : env[i]? = some (.lk τ S x)) : ∃ v fp, σ[i]? = some (some v) ∧ S.rel C.K F H fp v x := by
  obtain ⟨v, fp, a, b⟩ := h.lookK (i := es.length + i) (by rw [at_app _ rfl]; exact e)
  exact ⟨v, fp, by rw [at_app _ hl] at a; exact a, b⟩
theorem ER.repF (h : ER C F H (σs ++ σ) (es ++ env)) (hl : σs.length = es.length) (e : env[i]? = some (.st w τ (it E) x)) : ∃ v, σ[i]? = some (some v) ∧ Rep C.K F v (E.enc x) := by
  obtain ⟨v, fp, a, b⟩ := h.lookF hl e
  exact ⟨v, a, b.2⟩
theorem ER.lenF (h : ER C F H (σs ++ σ) (es ++ env)) (hl : σs.length = es.length) : σ.length = env.length := by
  have := h.len; simp [hl] at this; exact this
/-- the top of the stack goes to slot i -/
theorem ER.asg (h : ER C F H (o :: (σs ++ σ)) (s :: (es ++ env))) (hl : σs.length = es.length) (hi : i < env.length) : ER C F H (σs ++ σ.set i o) (es ++ env.set i s) := by
  have hls : σ.length = env.length := h.pop.lenF hl
  refine h.perm (by simp [hl, hls]) (fun j => if j = es.length + i then 0 else j + 1) fun j s' ej => .inr ?_
  by_cases z : j = es.length + i
  · subst z
    rw [at_app _ rfl, List.getElem?_set_self hi] at ej
    cases ej
    refine ⟨by simp, ?_, fun l s'' _ _ q => ?_⟩
    · simp only [if_pos]
      rw [at_app _ hl, List.getElem?_set_self (by omega)]
      rfl
    · by_cases y : l = es.length + i
      · exact y
      · simp only [if_neg y, if_pos] at q; omega
  · refine ⟨?_, ?_, fun l s'' _ _ q => ?_⟩
    · simp only [if_neg z, List.getElem?_cons_succ]
      by_cases a : j < es.length
      · rw [List.getElem?_append_left a] at ej ⊢; exact ej
      · obtain ⟨m, rfl⟩ : ∃ m, j = es.length + m := ⟨j - es.length, by omega⟩
        rw [at_app _ rfl, List.getElem?_set_ne (by omega)] at ej
        rw [at_app _ rfl]; exact ej
    · simp only [if_neg z, List.getElem?_cons_succ]
      by_cases a : j < es.length
      · rw [List.getElem?_append_left (by omega), List.getElem?_append_left (by omega)]
      · obtain ⟨m, rfl⟩ : ∃ m, j = es.length + m := ⟨j - es.length, by omega⟩
        rw [at_app _ hl, at_app _ hl, List.getElem?_set_ne (by omega)]
    · simp only [if_neg z] at q
      by_cases y : l = es.length + i
      · simp only [if_pos y] at q; omega
      · simp only [if_neg y] at q; omega
/-- weaker slots -/
inductive Sub : Env → Env → Prop
  | nil : Sub [] []
  | keep {s : Slot} {a b : Env} : Sub a b → Sub (s :: a) (s :: b)
  | drop {s : Slot} {a b : Env} : Sub a b → Sub (s :: a) (.un :: b)
theorem Sub.get : ∀ {a b : Env}, Sub a b → ∀ (j : Nat) (s' : Slot), b[j]? = some s' → s' = Slot.un ∨ a[j]? = some s'
  | _, _, .nil, j, s', e => by simp at e
  | _, _, .keep r, 0, s', e => .inr e
  | _, _, .keep r, j + 1, s', e => by simpa using r.get j s' (by simpa using e)
  | _, _, .drop r, 0, s', e => .inl (by simp at e; exact e.symm)
  | _, _, .drop r, j + 1, s', e => by simpa using r.get j s' (by simpa using e)
theorem Sub.len : ∀ {a b : Env}, Sub a b → a.length = b.length
  | _, _, .nil => rfl
  | _, _, .keep r => congrArg (· + 1) r.len
  | _, _, .drop r => congrArg (· + 1) r.len
theorem Sub.refl : ∀ (a : Env), Sub a a
  | [] => .nil
  | _ :: a => .keep (Sub.refl a)
theorem Sub.pre : ∀ (es : Env) {a b : Env}, Sub a b → Sub (es ++ a) (es ++ b)
  | [], _, _, r => r
  | _ :: es, _, _, r => .keep (Sub.pre es r)
theorem ER.sub (h : ER C F H σ env) (q : Sub env env') : ER C F H σ env' :=
  h.perm (by rw [h.len, q.len]) id fun j s' e => (q.get j s' e).imp id fun y => ⟨y, rfl, fun l _ _ _ z => z⟩
theorem ER.subF (h : ER C F H (σs ++ σ) (es ++ env)) (q : Sub env env') : ER C F H (σs ++ σ) (es ++ env') := h.sub (q.pre es)
theorem rot_key {α : Type _} (a : α) (at_ as : List α) {n : Nat} (hlen : at_.length = n) (j : Nat) : (a :: (at_ ++ as))[j]? = (at_ ++ a :: as)[if j = 0 then n else if j ≤ n then j - 1 else j]? := by
  by_cases z : j = 0
  · subst z
    simp only [if_pos, List.getElem?_cons_zero]
    rw [List.getElem?_append_right (by omega), hlen, Nat.sub_self]; rfl
  · obtain ⟨m, rfl⟩ : ∃ m, j = m + 1 := ⟨j - 1, by omega⟩
    simp only [if_neg z, List.getElem?_cons_succ]
    by_cases y : m + 1 ≤ n
    · rw [if_pos y, Nat.add_sub_cancel, List.getElem?_append_left (by omega), List.getElem?_append_left (by omega)]
    · rw [if_neg y, List.getElem?_append_right (by omega), List.getElem?_append_right (by omega)]
      obtain ⟨q, hq⟩ : ∃ q, m = n + q := ⟨m - n, by omega⟩
      subst hq
      rw [hlen, show n + q + 1 - n = q + 1 by omega, List.getElem?_cons_succ, show n + q - n = q by omega]
/-- a pushed value stands under others: it comes to the top -/
theorem ER.rot {σt : List (Option V)} {et : Env} (h : ER C F H (σt ++ o :: σ) (et ++ s :: env)) (hl : σt.length = et.length) : ER C F H (o :: (σt ++ σ)) (s :: (et ++ env)) := by
  have hls : σ.length = env.length := by have := h.len; simp [hl] at this; omega
  refine h.perm (by simp [hl, hls]) (fun j => if j = 0 then et.length else if j ≤ et.length then j - 1 else j) fun j s' ej => .inr ?_
  refine ⟨?_, ?_, fun l s'' _ _ q => ?_⟩
  · rw [← rot_key s et env rfl]; exact ej
  · rw [rot_key o σt σ hl]
  · by_cases z : j = 0
    · subst z
      by_cases y : l = 0
      · exact y
      · simp only [if_neg y, if_pos] at q
        by_cases a : l ≤ et.length
        · rw [if_pos a] at q; omega
        · rw [if_neg a] at q; omega
    · by_cases y : l = 0
      · subst y
        simp only [if_neg z, if_pos] at q
        by_cases a : j ≤ et.length
        · rw [if_pos a] at q; omega
        · rw [if_neg a] at q; omega
      · simp only [if_neg z, if_neg y] at q
        by_cases a : j ≤ et.length
        · rw [if_pos a] at q
          by_cases b : l ≤ et.length
          · rw [if_pos b] at q; omega
          · rw [if_neg b] at q; omega
        · rw [if_neg a] at q
          by_cases b : l ≤ et.length
          · rw [if_pos b] at q; omega
          · rw [if_neg b] at q; omega
theorem unrot_key {α : Type _} (a : α) (at_ as : List α) {n : Nat} (hlen : at_.length = n) (j : Nat) : (at_ ++ a :: as)[j]? = (a :: (at_ ++ as))[if j < n then j + 1 else if j = n then 0 else j]? := by
  by_cases z : j < n
  · rw [if_pos z, List.getElem?_cons_succ, List.getElem?_append_left (by omega), List.getElem?_append_left (by omega)]
  · rw [if_neg z]
    by_cases y : j = n
    · rw [if_pos y, List.getElem?_append_right (by omega), hlen, y, Nat.sub_self]; rfl
    · rw [if_neg y, List.getElem?_append_right (by omega)]
      obtain ⟨q, rfl⟩ : ∃ q, j = n + 1 + q := ⟨j - n - 1, by omega⟩
      rw [hlen, show n + 1 + q - n = q + 1 by omega, List.getElem?_cons_succ, show n + 1 + q = (n + q) + 1 by omega, List.getElem?_cons_succ, List.getElem?_append_right (by omega), hlen, Nat.add_sub_cancel_left]
/-- the top goes below others -/
theorem ER.unrot {σt : List (Option V)} {et : Env} (h : ER C F H (o :: (σt ++ σ)) (s :: (et ++ env))) (hl : σt.length = et.length) : ER C F H (σt ++ o :: σ) (et ++ s :: env) := by
  have hls : σ.length = env.length := by have := h.len; simp [hl] at this; omega
  refine h.perm (by simp [hl, hls]) (fun j => if j < et.length then j + 1 else if j = et.length then 0 else j) fun j s' ej => .inr ?_
  refine ⟨?_, ?_, fun l s'' _ _ q => ?_⟩
  · rw [← unrot_key s et env rfl]; exact ej
  · rw [unrot_key o σt σ hl]
  · by_cases z : j < et.length
    · simp only [if_pos z] at q
      by_cases y : l < et.length
      · simp only [if_pos y] at q; omega
      · simp only [if_neg y] at q
        by_cases x : l = et.length
        · simp only [if_pos x] at q; omega
        · simp only [if_neg x] at q; omega
    · simp only [if_neg z] at q
      by_cases y : l < et.length
      · simp only [if_pos y] at q
        by_cases x : j = et.length
        · simp only [if_pos x] at q; omega
        · simp only [if_neg x] at q; omega
      · simp only [if_neg y] at q
        by_cases x : j = et.length
        · simp only [if_pos x] at q
          by_cases w : l = et.length
          · omega
          · simp only [if_neg w] at q; omega
        · simp only [if_neg x] at q
          by_cases w : l = et.length
          · simp only [if_pos w] at q; omega
          · simp only [if_neg w] at q; omega
end

/-! ### the judgements -/
section
variable (X : Cx) {Ω : Type}
/-- the weakest readings -/
def tE (e : Expr) : TE := fun σ H Q => ∀ pins s, Inv X pins σ H s → wpAny (model X.prog X.w) X.A (eval e X.env) (EP X pins σ Q) X.xe s
def tT (e : Expr) : TT := fun σ H Q => ∀ pins s, Inv X pins σ H s → wpAny (model X.prog X.w) X.A (isTrue e X.env (eval e X.env)) (TP X pins σ Q) X.xe s
def tAs (es : List Expr) : TA := fun σ H Q => ∀ pos pins s, Inv X pins σ H s → wpAny (model X.prog X.w) X.A (spliced (backTo pos (starEach es X.env))) (AP X pins σ Q) X.xe s
def tSs (st : List Stmt) : TS := fun D σ H => ∀ pins s, Inv X pins σ H s → wpAny (model X.prog X.w) X.A (execs st X.env) (SP X pins D) X.xe s
def tS1 (st : Stmt) : TS := fun D σ H => ∀ pins s, Inv X pins σ H s → wpAny (model X.prog X.w) X.A (exec st X.env) (SP X pins D) X.xe s
theorem peC {e : Expr} : PE X e (tE X e) := ⟨fun pins s σ H Q I h => h pins s I⟩
theorem ptC {e : Expr} : PT X e (tT X e) := ⟨fun pins s σ H Q I h => h pins s I⟩
theorem paC {es : List Expr} : PA X es (tAs X es) := ⟨fun pos pins s σ H Q I h => h pos pins s I⟩
theorem pssC {st : List Stmt} : PSs X st (tSs X st) := ⟨fun pins s σ H D I h => h pins s I⟩
theorem psC {st : Stmt} : PS X st (tS1 X st) := ⟨fun pins s σ H D I h => h pins s I⟩
theorem tE.of {e : Expr} {t : TE} {σ : L2.St} {H : Hp} {Q : VK} (h : PE X e t) (q : t σ H Q) : tE X e σ H Q := fun pins s I => h.run pins s σ H Q I q
theorem tT.of {e : Expr} {t : TT} {σ : L2.St} {H : Hp} {Q : Bool → Hp → Prop} (h : PT X e t) (q : t σ H Q) : tT X e σ H Q := fun pins s I => h.run pins s σ H Q I q
theorem tAs.of {es : List Expr} {t : TA} {σ : L2.St} {H : Hp} {Q : List V → Hp → Prop} (h : PA X es t) (q : t σ H Q) : tAs X es σ H Q := fun pos pins s I => h.run pos pins s σ H Q I q
theorem tSs.of {st : List Stmt} {t : TS} {σ : L2.St} {H : Hp} {D : Ends} (h : PSs X st t) (q : t D σ H) : tSs X st D σ H := fun pins s I => h.run pins s σ H D I q
theorem tS1.of {st : Stmt} {t : TS} {σ : L2.St} {H : Hp} {D : Ends} (h : PS X st t) (q : t D σ H) : tS1 X st D σ H := fun pins s I => h.run pins s σ H D I q

def LX (env : Env) (e : Expr) {τ : Type} (S : Stor τ) {P : Type} (env' : P → Env) (f : (τ → P → Option Ω) → Option Ω) : Prop :=
  ∀ (C : Ck) (F H : Hp) (σs : List (Option V)) (es : Env) (σ : List (Option V)) (k : τ → P → Option Ω) (ω : Ω) (Q : VK), C.K = X.K → σs.length = es.length → ER C F H (σs ++ σ) (es ++ env) → f k = some ω →
    (∀ a p v F' H', k a p = some ω → ER C F' H' (some v :: (σs ++ σ)) (.st none τ S a :: (es ++ env' p)) → Q v H') → tE X e σ H Q
def LT (env : Env) (e : Expr) {P : Type} (env' : P → Env) (f : (Bool → P → Option Ω) → Option Ω) : Prop :=
  ∀ (C : Ck) (F H : Hp) (σs : List (Option V)) (es : Env) (σ : List (Option V)) (k : Bool → P → Option Ω) (ω : Ω) (Q : Bool → Hp → Prop), C.K = X.K → σs.length = es.length → ER C F H (σs ++ σ) (es ++ env) → f k = some ω →
    (∀ a p F' H', k a p = some ω → ER C F' H' (σs ++ σ) (es ++ env' p) → Q a H') → tT X e σ H Q
/-- an operand: what it tells may be read as long as the slots stand -/
def LO (G : Env → Prop) (env : Env) (e : Expr) {τ : Type} (S : Stor τ) {P : Type} (env' : P → Env) (f : (τ → P → Option Ω) → Option Ω) : Prop :=
  ∀ (C : Ck) (F H : Hp) (σs : List (Option V)) (es : Env) (σ : List (Option V)) (k : τ → P → Option Ω) (ω : Ω) (Q : VK), C.K = X.K → σs.length = es.length → ER C F H (σs ++ σ) (es ++ env) → f k = some ω →
    (∀ a p v F' H' (σx : List (Option V)) (ex : Env), σx.length = ex.length → k a p = some ω → ER C F' H' (σx ++ (σs ++ σ)) (ex ++ (es ++ env' p)) →
      (∀ (F'' H'' : Hp) (σ2 : List (Option V)) (e2 env2 : Env), G env2 → σ2.length = e2.length → ER C F'' H'' (σ2 ++ (σx ++ (σs ++ σ))) (e2 ++ (ex ++ (es ++ env2))) → ∃ fp, S.rel C.K F'' H'' fp v a) → Q v H') → tE X e σ H Q
/-- arguments, from the left -/
def LA (env : Env) (xs : List Expr) {A : Type} (sl : A → Env) {P : Type} (env' : P → Env) (f : (A → P → Option Ω) → Option Ω) : Prop :=
  ∀ (C : Ck) (F H : Hp) (σs : List (Option V)) (es : Env) (σ : List (Option V)) (k : A → P → Option Ω) (ω : Ω) (Q : List V → Hp → Prop), C.K = X.K → σs.length = es.length → ER C F H (σs ++ σ) (es ++ env) → f k = some ω →
    (∀ a p (vs : List V) F' H', k a p = some ω → (vs.map some).length = (sl a).length → ER C F' H' (vs.map some ++ (σs ++ σ)) (sl a ++ (es ++ env' p)) → Q vs H') → tAs X xs σ H Q
/-- a comparison: value and test -/
def LC (env : Env) (op : CmpOp) (a b : Expr) {P : Type} (env' : P → Env) (f : (Bool → P → Option Ω) → Option Ω) : Prop :=
  ∃ r : R2, OpR X (compareOp op) r ∧ ∀ (C : Ck) (F H : Hp) (σs : List (Option V)) (es : Env) (σ : List (Option V)) (k : Bool → P → Option Ω) (ω : Ω) (Q : VK), C.K = X.K → σs.length = es.length → ER C F H (σs ++ σ) (es ++ env) → f k = some ω →
    (∀ c p F' H', k c p = some ω → ER C F' H' (σs ++ σ) (es ++ env' p) → Q (.bl c) H') → tOp r (tE X a) (tE X b) σ H Q
end

/-- a label: where a break or a continue goes -/
structure Lp (Ω : Type) where
  J : Type
  env : J → Env
  k : J → Option Ω
def noLp (Ω : Type) : Lp Ω := ⟨Empty, fun e => e.elim, fun e => e.elim⟩
section
variable (X : Cx)
def LB {R I Ω : Type} (S : Stor R) (envR : I → Env) (kr : R → I → Option Ω) (bk ct : Lp Ω) (env : Env) (sts : List Stmt) {J : Type} (envJ : J → Env) (f : (J → Option Ω) → Option Ω) : Prop :=
  ∀ (C : Ck) (F H : Hp) (σs : List (Option V)) (es : Env) (σ : List (Option V)) (kn : J → Option Ω) (ω : Ω) (D : Ends), C.K = X.K → σs.length = es.length → ER C F H (σs ++ σ) (es ++ env) → f kn = some ω →
    (∀ j F' H' σ', kn j = some ω → ER C F' H' (σs ++ σ') (es ++ envJ j) → D.nx σ' H') →
    (∀ j F' H' σ', bk.k j = some ω → ER C F' H' (σs ++ σ') (es ++ bk.env j) → D.bk σ' H') →
    (∀ j F' H' σ', ct.k j = some ω → ER C F' H' (σs ++ σ') (es ++ ct.env j) → D.ct σ' H') →
    (∀ a i v F' H' σ', kr a i = some ω → ER C F' H' (some v :: (σs ++ σ')) (.st none R S a :: (es ++ envR i)) → D.rt v H') → tSs X sts D σ H
end

/-! ### names, constants -/
section
variable {X : Cx} {Ω : Type} {env env1 : Env} {τ : Type} {S : Stor τ} {E : Enc τ} {x : τ} {w : Option V} {i : Nat} {nm : Str} {pos : Pos} {e a b : Expr} {P P1 P2 : Type} {f : (τ → P → Option Ω) → Option Ω} {env' : P → Env}
theorem lx_var (i : Nat) (cp : Cp S) (e : env[i]? = some (.st w τ S x)) (hN : X.N[i]? = some nm := by rfl) (hv : Vis X.env.scope nm := by first | exact Or.inl rfl | exact Or.inr (Or.inl rfl) | exact Or.inr (Or.inr rfl)) (hd : (nm == ("__debug__" : Str)) = false := by decide) (hcd : (nm == ("__classdict__" : Str)) = false := by decide) :
    LX X env (.Name nm pos) S (fun _ : Unit => env) (fun (k : τ → Unit → Option Ω) => k x ()) := by
  refine fun C F H σs es σ k ω Q hK hl h hk q => tE.of X (pe_var hN hv hd hcd) ?_
  obtain ⟨v, fp, e1, r⟩ := h.lookF hl e
  have z := cp.nil r
  subst z
  exact ⟨v, e1, q x () v F H hk (h.push0 ⟨v, rfl, r, fun _ m => nomatch m⟩)⟩
/-- an own object is read and shared from here on -/
theorem lx_frz (i : Nat) (fz : Frz S E) (e : env[i]? = some (.st none τ S x)) (hN : X.N[i]? = some nm := by rfl) (hv : Vis X.env.scope nm := by first | exact Or.inl rfl | exact Or.inr (Or.inl rfl) | exact Or.inr (Or.inr rfl)) (hd : (nm == ("__debug__" : Str)) = false := by decide) (hcd : (nm == ("__classdict__" : Str)) = false := by decide) :
    LX X env (.Name nm pos) (it E) (fun _ : Unit => env.set i (.st none τ (it E) x)) (fun (k : τ → Unit → Option Ω) => k x ()) := by
  refine fun C F H σs es σ k ω Q hK hl h hk q => tE.of X (pe_var hN hv hd hcd) ?_
  obtain ⟨F', sF, h'⟩ := h.freeze (i := es.length + i) fz (by rw [at_app _ rfl]; exact e)
  have h2 : ER C F' H (σs ++ σ) (es ++ env.set i (.st none τ (it E) x)) := by
    rw [List.set_append_right _ _ (Nat.le_add_right _ _), Nat.add_sub_cancel_left] at h'
    exact h'
  obtain ⟨v, e1, r⟩ := h2.repF (i := i) (E := E) (x := x) (w := none) hl (by rw [List.getElem?_set_self (List.getElem?_eq_some_iff.mp e).1])
  exact ⟨v, e1, q x () v F' H hk (h2.pushSh r)⟩
/-- an own object is handed on -/
theorem lx_move (i : Nat) (e : env[i]? = some (.st none τ S x)) (hN : X.N[i]? = some nm := by rfl) (hv : Vis X.env.scope nm := by first | exact Or.inl rfl | exact Or.inr (Or.inl rfl) | exact Or.inr (Or.inr rfl)) (hd : (nm == ("__debug__" : Str)) = false := by decide) (hcd : (nm == ("__classdict__" : Str)) = false := by decide) :
    LX X env (.Name nm pos) S (fun _ : Unit => env.set i .un) (fun (k : τ → Unit → Option Ω) => k x ()) := by
  refine fun C F H σs es σ k ω Q hK hl h hk q => tE.of X (pe_var hN hv hd hcd) ?_
  obtain ⟨v, fp, e1, r⟩ := h.lookF hl e
  refine ⟨v, e1, q x () v F H hk ?_⟩
  have hi := (List.getElem?_eq_some_iff.mp e).1
  refine h.perm (by have := h.len; simp at this ⊢; omega) (fun j => if j = 0 then es.length + i else j - 1) fun j s' ej => ?_
  cases j with
  | zero =>
    simp at ej; subst ej
    refine .inr ⟨?_, ?_, fun l s'' el hne hq => ?_⟩
    · simp only [if_pos]; rw [at_app _ rfl]; exact e
    · simp only [if_pos]; rw [at_app _ hl, e1]; rfl
    · by_cases z : l = 0
      · exact z
      · exfalso
        simp only [if_neg z, if_pos] at hq
        obtain ⟨m, rfl⟩ : ∃ m, l = m + 1 := ⟨l - 1, by omega⟩
        have hm : m = es.length + i := by omega
        subst hm
        rw [List.getElem?_cons_succ, at_app _ rfl, List.getElem?_set_self hi] at el
        exact hne (Option.some.inj el).symm
  | succ j =>
    rw [List.getElem?_cons_succ] at ej
    by_cases z : j = es.length + i
    · subst z
      rw [at_app _ rfl, List.getElem?_set_self hi] at ej
      exact .inl (Option.some.inj ej).symm
    · refine .inr ⟨?_, by simp, fun l s'' el hne hq => ?_⟩
      · simp only [Nat.add_one_sub_one, if_neg (Nat.succ_ne_zero j)]
        by_cases y : j < es.length
        · rw [List.getElem?_append_left y] at ej ⊢; exact ej
        · obtain ⟨m, rfl⟩ : ∃ m, j = es.length + m := ⟨j - es.length, by omega⟩
          rw [at_app _ rfl, List.getElem?_set_ne (by omega)] at ej
          rw [at_app _ rfl]; exact ej
      · by_cases y : l = 0
        · subst y; simp only [if_pos, if_neg (Nat.succ_ne_zero j)] at hq; omega
        · simp only [if_neg y, if_neg (Nat.succ_ne_zero j)] at hq; omega
theorem lx_c {v : V} (hp : PE X e (tC v)) (r : ∀ F, Rep X.K F v (E.enc x)) : LX X env e (it E) (fun _ : Unit => env) (fun (k : τ → Unit → Option Ω) => k x ()) :=
  fun C F H σs es σ k ω Q hK hl h hk q => tE.of X hp (q x () v F H hk (h.pushSh (by rw [hK]; exact r F)))
theorem lx_int {n : Int} {j : Nat} : LX X env (.Constant (.int n) j pos) (it eI) (fun _ : Unit => env) (fun (k : Int → Unit → Option Ω) => k n ()) := lx_c pe_int fun _ => .int n
theorem lx_bl {c : Bool} {j : Nat} : LX X env (.Constant (.bool c) j pos) (it eB) (fun _ : Unit => env) (fun (k : Bool → Unit → Option Ω) => k c ()) := lx_c pe_bl fun _ => .bl c
theorem lx_str {c : Str} {j : Nat} : LX X env (.Constant (.str c) j pos) (it eS) (fun _ : Unit => env) (fun (k : Str → Unit → Option Ω) => k c ()) := lx_c pe_str fun _ => .str c
theorem lx_non {j : Nat} : LX X env (.Constant .none j pos) (it eN) (fun _ : Unit => env) (fun (k : Unit → Unit → Option Ω) => k () ()) := lx_c pe_non fun _ => .non
/-- what is told may be taken for another kind of the same data -/
theorem lx_as {τ' : Type} {E' : Enc τ'} (h : LX X env e (it E) env' f) (g : τ → τ') (hg : ∀ a, E'.enc (g a) = E.enc a) : LX X env e (it E') env' (fun (k : τ' → P → Option Ω) => f fun a p => k (g a) p) := by
  refine fun C F H σs es σ k ω Q hK hl hr hk q => h C F H σs es σ _ ω Q hK hl hr hk fun a p v F' H' hka h' => q (g a) p v F' H' hka ?_
  obtain ⟨v', fp, e1, r⟩ := h'.look (i := 0) rfl
  simp at e1; subst e1
  exact h'.pop.pushSh (by rw [hg]; exact r.2)
/-- .. a cast: where the data are of another kind the walk is not followed -/
theorem lx_cast {τ' : Type} {E' : Enc τ'} (h : LX X env e (it E) env' f) (g : τ → Option τ') (hg : ∀ a b, g a = some b → E'.enc b = E.enc a) : LX X env e (it E') env' (fun (k : τ' → P → Option Ω) => f fun a p => (g a).bind fun b => k b p) := by
  refine fun C F H σs es σ k ω Q hK hl hr hk q => h C F H σs es σ _ ω Q hK hl hr hk fun a p v F' H' hka h' => ?_
  cases z : g a with
  | none => rw [z] at hka; cases hka
  | some b =>
    rw [z] at hka
    obtain ⟨v', fp, e1, r⟩ := h'.look (i := 0) rfl
    simp at e1; subst e1
    exact q b p v F' H' hka (h'.pop.pushSh (by rw [hg a b z]; exact r.2))
/-- own objects that were made are shared -/
theorem lx_sh (fz : Frz S E) (h : LX X env e S env' f) : LX X env e (it E) env' f := by
  refine fun C F H σs es σ k ω Q hK hl hr hk q => h C F H σs es σ k ω Q hK hl hr hk fun a p v F' H' hka h' => ?_
  obtain ⟨F2, sF, h2⟩ := h'.freeze (i := 0) fz rfl
  exact q a p v F2 H' hka h2
/-- the operands -/
theorem lo_of (h : LX X env e S env' f) : LO X (fun _ => True) env e S env' f := by
  refine fun C F H σs es σ k ω Q hK hl hr hk q => h C F H σs es σ k ω Q hK hl hr hk fun a p v F' H' hka h' => ?_
  refine q a p v F' H' [some v] [.st none τ S a] rfl hka h' fun F'' H'' σ2 e2 env2 _ hl2 h2 => ?_
  obtain ⟨v', fp, e1, r⟩ := h2.look (i := e2.length + 0) (by rw [at_app _ rfl]; rfl)
  rw [at_app _ hl2] at e1
  simp at e1; subst e1
  exact ⟨fp, r⟩
theorem lo_var (i : Nat) (e : env[i]? = some (.st w τ S x)) (hN : X.N[i]? = some nm := by rfl) (hv : Vis X.env.scope nm := by first | exact Or.inl rfl | exact Or.inr (Or.inl rfl) | exact Or.inr (Or.inr rfl)) (hd : (nm == ("__debug__" : Str)) = false := by decide) (hcd : (nm == ("__classdict__" : Str)) = false := by decide) :
    LO X (fun en => en[i]? = some (.st w τ S x)) env (.Name nm pos) S (fun _ : Unit => env) (fun (k : τ → Unit → Option Ω) => k x ()) := by
  refine fun C F H σs es σ k ω Q hK hl h hk q => tE.of X (pe_var hN hv hd hcd) ?_
  obtain ⟨v, fp, e1, r⟩ := h.lookF hl e
  refine ⟨v, e1, q x () v F H [] [] rfl hk h fun F'' H'' σ2 e2 env2 hg hl2 h2 => ?_⟩
  have h3 : ER C F'' H'' ((σ2 ++ σs) ++ σ) ((e2 ++ es) ++ env2) := by simpa [List.append_assoc] using h2
  obtain ⟨v', fp', e1', r'⟩ := h3.lookF (i := i) (τ := τ) (S := S) (x := x) (w := w) (by simp [hl, hl2]) hg
  rw [e1] at e1'; cases e1'
  exact ⟨fp', r'⟩
theorem lo_lk (i : Nat) (e : env[i]? = some (.lk τ S x)) (hN : X.N[i]? = some nm := by rfl) (hv : Vis X.env.scope nm := by first | exact Or.inl rfl | exact Or.inr (Or.inl rfl) | exact Or.inr (Or.inr rfl)) (hd : (nm == ("__debug__" : Str)) = false := by decide) (hcd : (nm == ("__classdict__" : Str)) = false := by decide) :
    LO X (fun en => en[i]? = some (.lk τ S x)) env (.Name nm pos) S (fun _ : Unit => env) (fun (k : τ → Unit → Option Ω) => k x ()) := by
  refine fun C F H σs es σ k ω Q hK hl h hk q => tE.of X (pe_var hN hv hd hcd) ?_
  obtain ⟨v, fp, e1, r⟩ := h.lookKF hl e
  refine ⟨v, e1, q x () v F H [] [] rfl hk h fun F'' H'' σ2 e2 env2 hg hl2 h2 => ?_⟩
  have h3 : ER C F'' H'' ((σ2 ++ σs) ++ σ) ((e2 ++ es) ++ env2) := by simpa [List.append_assoc] using h2
  obtain ⟨v', fp', e1', r'⟩ := h3.lookKF (i := i) (τ := τ) (S := S) (x := x) (by simp [hl, hl2]) hg
  rw [e1] at e1'; cases e1'
  exact ⟨fp', r'⟩
end
end Z

set_option Elab.async false
set_option linter.all false
set_option maxRecDepth 100000
namespace Z
open PySem PySem.Spec PyProof.Rows L2

/-- a check on the way: where it fails the walk is not followed -/
def ck {Ω : Type} (b : Bool) (k : Option Ω) : Option Ω := if b then k else none
theorem ck_some {Ω : Type} {b : Bool} {k : Option Ω} {ω : Ω} (h : ck b k = some ω) : b = true ∧ k = some ω := by
  unfold ck at h
  cases b with
  | true => exact ⟨rfl, by simpa using h⟩
  | false => simp at h
@[simp] theorem ck_true {Ω : Type} (k : Option Ω) : ck true k = k := rfl
theorem bind_some {α Ω : Type} {o : Option α} {k : α → Option Ω} {ω : Ω} (h : o.bind k = some ω) : ∃ a, o = some a ∧ k a = some ω := by
  cases o with
  | none => cases h
  | some a => exact ⟨a, rfl, h⟩

section
variable {X : Cx} {Ω : Type} {env : Env} {nm : Str} {pos : Pos} {a b : Expr} {P P1 P2 : Type} {τ τ1 τ2 α β : Type} {S : Stor τ} {S1 : Stor τ1} {S2 : Stor τ2} {E : Enc τ} {E1 : Enc τ1} {E2 : Enc τ2}
  {G : Env → Prop} {G1 : Env → Prop} {G2 : P1 → Env → Prop} {e1 : P1 → Env} {e2 : P1 → P2 → Env} {fa : (τ1 → P1 → Option Ω) → Option Ω} {fb : P1 → (τ2 → P2 → Option Ω) → Option Ω}

theorem lo_run (ha : LO X G env a S1 e1 fa) (g1 : ∀ p1, G (e1 p1)) {C : Ck} {F H : Hp} {σs : List (Option V)} {es : Env} {σ : List (Option V)} {k : τ1 → P1 → Option Ω} {ω : Ω} {R : V → Hp → Prop} (hK : C.K = X.K) (hl : σs.length = es.length)
    (h : ER C F H (σs ++ σ) (es ++ env)) (hk : fa k = some ω)
    (q : ∀ x p1 v F' H' fp, k x p1 = some ω → ER C F' H' (σs ++ σ) (es ++ e1 p1) → S1.rel C.K F' H' fp v x → R v H') : tE X a σ H R :=
  ha C F H σs es σ k ω R hK hl h hk fun x p1 v F' H' σx ex hlx hk' h' r' => by
    obtain ⟨fp, rr⟩ := r' F' H' [] [] (e1 p1) (g1 p1) rfl h'
    exact q x p1 v F' H' fp hk' (h'.popN hlx) rr
/-- two operands in a row -/
theorem op2_run (ha : LO X G1 env a S1 e1 fa) (hb : ∀ p1, LO X (G2 p1) (e1 p1) b S2 (e2 p1) (fb p1)) (g1 : ∀ p1 p2, G1 (e2 p1 p2)) (g2 : ∀ p1 p2, G2 p1 (e2 p1 p2))
    {C : Ck} {F H : Hp} {σs : List (Option V)} {es : Env} {σ : List (Option V)} {k : τ1 → P1 → τ2 → P2 → Option Ω} {ω : Ω} {R : V → V → Hp → Prop} (hK : C.K = X.K) (hl : σs.length = es.length)
    (h : ER C F H (σs ++ σ) (es ++ env)) (hk : (fa fun x p1 => fb p1 fun y p2 => k x p1 y p2) = some ω)
    (q : ∀ x p1 y p2 v u F' H' fp fq, k x p1 y p2 = some ω → ER C F' H' (σs ++ σ) (es ++ e2 p1 p2) → S1.rel C.K F' H' fp v x → S2.rel C.K F' H' fq u y → R v u H') :
    tE X a σ H fun v H1 => tE X b σ H1 fun u H2 => R v u H2 :=
  ha C F H σs es σ _ ω _ hK hl h hk fun x p1 v F' H' σx ex hlx hk' h' r' =>
    hb p1 C F' H' (σx ++ σs) (ex ++ es) σ _ ω _ hK (by simp [hl, hlx]) (by simpa [List.append_assoc] using h') hk' fun y p2 u F2 H2 σy ey hly hk2 h2 r2 => by
      have h3 : ER C F2 H2 (σy ++ (σx ++ (σs ++ σ))) (ey ++ (ex ++ (es ++ e2 p1 p2))) := by simpa [List.append_assoc] using h2
      obtain ⟨fp, rr⟩ := r' F2 H2 σy ey (e2 p1 p2) (g1 p1 p2) hly h3
      obtain ⟨fq, rq⟩ := r2 F2 H2 [] [] (e2 p1 p2) (g2 p1 p2) rfl h2
      exact q x p1 y p2 v u F2 H2 fp fq hk2 ((h3.popN hly).popN hlx) rr rq

/-! ### numbers -/
/-- an operator of two ints, by its check and its value -/
theorem lx_opI {op : Operator} {r : R2} {c : Int → Int → Bool} {g : Int → Int → Int} (ho : OpR X (binaryOp op) r) (hr : ∀ i j H (Q : VK), c i j = true → Q (.int (g i j)) H → r (.int i) (.int j) H Q)
    {fa : (Int → P1 → Option Ω) → Option Ω} {fb : P1 → (Int → P2 → Option Ω) → Option Ω} (ha : LX X env a (it eI) e1 fa) (hb : ∀ p1, LX X (e1 p1) b (it eI) (e2 p1) (fb p1)) :
    LX X env (.BinOp a op b pos) (it eI) (fun p : P1 × P2 => e2 p.1 p.2) (fun k => fa fun x p1 => fb p1 fun y p2 => ck (c x y) (k (g x y) (p1, p2))) :=
  fun C F H σs es σ k ω Q hK hl h hk q => tE.of X (pe_op ho (peC X) (peC X)) (op2_run (lo_of ha) (fun p1 => lo_of (hb p1)) (fun _ _ => trivial) (fun _ _ => trivial) hK hl h hk
    fun x p1 y p2 v u F' H' fp fq hk' h' r1 r2 => by
      obtain ⟨hc, hk'⟩ := ck_some hk'
      obtain ⟨_, r1⟩ := r1
      obtain ⟨_, r2⟩ := r2
      cases r1; cases r2
      exact hr x y H' Q hc (q _ (p1, p2) _ F' H' hk' (h'.pushSh (.int _))))
/-- .. that needs no check -/
theorem lx_opT {op : Operator} {r : R2} {g : Int → Int → Int} (ho : OpR X (binaryOp op) r) (hr : ∀ i j H (Q : VK), Q (.int (g i j)) H → r (.int i) (.int j) H Q)
    {fa : (Int → P1 → Option Ω) → Option Ω} {fb : P1 → (Int → P2 → Option Ω) → Option Ω} (ha : LX X env a (it eI) e1 fa) (hb : ∀ p1, LX X (e1 p1) b (it eI) (e2 p1) (fb p1)) :
    LX X env (.BinOp a op b pos) (it eI) (fun p : P1 × P2 => e2 p.1 p.2) (fun k => fa fun x p1 => fb p1 fun y p2 => k (g x y) (p1, p2)) :=
  fun C F H σs es σ k ω Q hK hl h hk q => tE.of X (pe_op ho (peC X) (peC X)) (op2_run (lo_of ha) (fun p1 => lo_of (hb p1)) (fun _ _ => trivial) (fun _ _ => trivial) hK hl h hk
    fun x p1 y p2 v u F' H' fp fq hk' h' r1 r2 => by
      obtain ⟨_, r1⟩ := r1
      obtain ⟨_, r2⟩ := r2
      cases r1; cases r2
      exact hr x y H' Q (q _ (p1, p2) _ F' H' hk' (h'.pushSh (.int _))))
section
variable {fa : (Int → P1 → Option Ω) → Option Ω} {fb : P1 → (Int → P2 → Option Ω) → Option Ω}
theorem lx_add (ha : LX X env a (it eI) e1 fa) (hb : ∀ p1, LX X (e1 p1) b (it eI) (e2 p1) (fb p1)) :
    LX X env (.BinOp a .Add b pos) (it eI) (fun p : P1 × P2 => e2 p.1 p.2) (fun k => fa fun x p1 => fb p1 fun y p2 => k (x + y) (p1, p2)) := lx_opT op_add (fun i j _ _ q => ⟨i, j, rfl, rfl, q⟩) ha hb
theorem lx_sub (ha : LX X env a (it eI) e1 fa) (hb : ∀ p1, LX X (e1 p1) b (it eI) (e2 p1) (fb p1)) :
    LX X env (.BinOp a .Sub b pos) (it eI) (fun p : P1 × P2 => e2 p.1 p.2) (fun k => fa fun x p1 => fb p1 fun y p2 => k (x - y) (p1, p2)) := lx_opT op_sub (fun i j _ _ q => ⟨i, j, rfl, rfl, q⟩) ha hb
/-- a product: one factor is below 2 ^ 64 -/
def mulOk (i j : Int) : Bool := decide ((-(2 ^ 64) < i ∧ i < 2 ^ 64) ∨ (-(2 ^ 64) < j ∧ j < 2 ^ 64))
def divOk (j : Int) : Bool := decide (j ≠ 0 ∧ j.natAbs < 1073741824)
def modOk (j : Int) : Bool := decide (j ≠ 0)
def powOk (i j : Int) : Bool := decide (0 ≤ j ∧ j ≤ 1000000 ∧ i.natAbs < 2 ^ 64)
theorem lx_mul (ha : LX X env a (it eI) e1 fa) (hb : ∀ p1, LX X (e1 p1) b (it eI) (e2 p1) (fb p1)) :
    LX X env (.BinOp a .Mult b pos) (it eI) (fun p : P1 × P2 => e2 p.1 p.2) (fun k => fa fun x p1 => fb p1 fun y p2 => ck (mulOk x y) (k (x * y) (p1, p2))) := lx_opI (c := mulOk) op_mul (fun i j _ _ c q => ⟨i, j, rfl, rfl, of_decide_eq_true (p := (-(2 ^ 64) < i ∧ i < 2 ^ 64) ∨ (-(2 ^ 64) < j ∧ j < 2 ^ 64)) c, q⟩) ha hb
theorem lx_fdiv (ha : LX X env a (it eI) e1 fa) (hb : ∀ p1, LX X (e1 p1) b (it eI) (e2 p1) (fb p1)) :
    LX X env (.BinOp a .FloorDiv b pos) (it eI) (fun p : P1 × P2 => e2 p.1 p.2) (fun k => fa fun x p1 => fb p1 fun y p2 => ck (divOk y) (k (x.fdiv y) (p1, p2))) := lx_opI (c := fun _ y => divOk y) op_fdivN (fun i j _ _ c q => ⟨i, j, rfl, rfl, of_decide_eq_true (p := j ≠ 0 ∧ j.natAbs < 1073741824) c, q⟩) ha hb
theorem lx_mod (ha : LX X env a (it eI) e1 fa) (hb : ∀ p1, LX X (e1 p1) b (it eI) (e2 p1) (fb p1)) :
    LX X env (.BinOp a .Mod b pos) (it eI) (fun p : P1 × P2 => e2 p.1 p.2) (fun k => fa fun x p1 => fb p1 fun y p2 => ck (modOk y) (k (x.fmod y) (p1, p2))) := lx_opI (c := fun _ y => modOk y) op_modN (fun i j _ _ c q => ⟨i, j, rfl, rfl, of_decide_eq_true c, q⟩) ha hb
theorem lx_pow (ha : LX X env a (it eI) e1 fa) (hb : ∀ p1, LX X (e1 p1) b (it eI) (e2 p1) (fb p1)) :
    LX X env (.BinOp a .Pow b pos) (it eI) (fun p : P1 × P2 => e2 p.1 p.2) (fun k => fa fun x p1 => fb p1 fun y p2 => ck (powOk x y) (k (x ^ y.toNat) (p1, p2))) := lx_opI (c := powOk) op_pow (fun i j _ _ c q => ⟨i, j, rfl, rfl, of_decide_eq_true (p := 0 ≤ j ∧ j ≤ 1000000 ∧ i.natAbs < 2 ^ 64) c, q⟩) ha hb
theorem lx_neg (ha : LX X env a (it eI) e1 fa) : LX X env (.UnaryOp .USub a pos) (it eI) e1 (fun k => fa fun x p1 => k (-x) p1) :=
  fun C F H σs es σ k ω Q hK hl h hk q => tE.of X (pe_un un_neg (peC X)) (lo_run (lo_of ha) (fun _ => trivial) hK hl h hk fun x p1 v F' H' fp hk' h' r => by
    obtain ⟨_, r⟩ := r
    cases r
    exact ⟨x, rfl, q _ p1 _ F' H' hk' (h'.pushSh (.int _))⟩)
end
/-! ### comparisons -/
theorem lc_cmp {op : CmpOp} {r : R2} {g : τ1 → τ2 → Bool} (ho : OpR X (compareOp op) r) (ha : LO X G1 env a S1 e1 fa) (hb : ∀ p1, LO X (G2 p1) (e1 p1) b S2 (e2 p1) (fb p1)) (g1 : ∀ p1 p2, G1 (e2 p1 p2)) (g2 : ∀ p1 p2, G2 p1 (e2 p1 p2))
    (hr : ∀ K F H fp fq v u x y (Q : VK), K = X.K → Same F H → S1.rel K F H fp v x → S2.rel K F H fq u y → Q (.bl (g x y)) H → r v u H Q) :
    LC X env op a b (fun p : P1 × P2 => e2 p.1 p.2) (fun k => fa fun x p1 => fb p1 fun y p2 => k (g x y) (p1, p2)) :=
  ⟨r, ho, fun C F H σs es σ k ω Q hK hl h hk q => op2_run ha hb g1 g2 hK hl h hk fun x p1 y p2 v u F' H' fp fq hk' h' r1 r2 =>
    hr C.K F' H' fp fq v u x y Q hK h'.sF r1 r2 (q _ (p1, p2) F' H' hk' h')⟩
/-- .. with a check -/
theorem lc_cmpC {op : CmpOp} {r : R2} {c g : τ1 → τ2 → Bool} (ho : OpR X (compareOp op) r) (ha : LO X G1 env a S1 e1 fa) (hb : ∀ p1, LO X (G2 p1) (e1 p1) b S2 (e2 p1) (fb p1)) (g1 : ∀ p1 p2, G1 (e2 p1 p2)) (g2 : ∀ p1 p2, G2 p1 (e2 p1 p2))
    (hr : ∀ K F H fp fq v u x y (Q : VK), K = X.K → Same F H → c x y = true → S1.rel K F H fp v x → S2.rel K F H fq u y → Q (.bl (g x y)) H → r v u H Q) :
    LC X env op a b (fun p : P1 × P2 => e2 p.1 p.2) (fun k => fa fun x p1 => fb p1 fun y p2 => ck (c x y) (k (g x y) (p1, p2))) :=
  ⟨r, ho, fun C F H σs es σ k ω Q hK hl h hk q => op2_run ha hb g1 g2 hK hl h hk fun x p1 y p2 v u F' H' fp fq hk' h' r1 r2 => by
    obtain ⟨hc, hk'⟩ := ck_some hk'
    exact hr C.K F' H' fp fq v u x y Q hK h'.sF hc r1 r2 (q _ (p1, p2) F' H' hk' h')⟩
theorem lx_cmp {op : CmpOp} {e' : P → Env} {f : (Bool → P → Option Ω) → Option Ω} (h : LC X env op a b e' f) (hm : behindInMarks op b = false) : LX X env (.Compare a [op] [b] pos) (it eB) e' f := by
  obtain ⟨r, ho, h⟩ := h
  exact fun C F H σs es σ k ω Q hK hl hr hk q => tE.of X (pe_cmpR ho (peC X) (peC X) hm) (h C F H σs es σ k ω Q hK hl hr hk fun c p F' H' hk' h' => q c p _ F' H' hk' (h'.pushSh (.bl _)))
theorem lt_cmp {op : CmpOp} {e' : P → Env} {f : (Bool → P → Option Ω) → Option Ω} (h : LC X env op a b e' f) (hm : behindInMarks op b = false) : LT X env (.Compare a [op] [b] pos) e' f := by
  obtain ⟨r, ho, h⟩ := h
  exact fun C F H σs es σ k ω Q hK hl hr hk q => tT.of X (pt_cmpR ho (peC X) (peC X) hm) (h C F H σs es σ k ω _ hK hl hr hk fun c p F' H' hk' h' => ⟨c, rfl, q c p F' H' hk' h'⟩)
section
variable {fa : (Int → P1 → Option Ω) → Option Ω} {fb : P1 → (Int → P2 → Option Ω) → Option Ω}
theorem lc_int {op : CmpOp} {r : R2} {g : Int → Int → Bool} (ho : OpR X (compareOp op) r) (hr : ∀ i j H (Q : VK), Q (.bl (g i j)) H → r (.int i) (.int j) H Q) (ha : LX X env a (it eI) e1 fa) (hb : ∀ p1, LX X (e1 p1) b (it eI) (e2 p1) (fb p1)) :
    LC X env op a b (fun p : P1 × P2 => e2 p.1 p.2) (fun k => fa fun x p1 => fb p1 fun y p2 => k (g x y) (p1, p2)) :=
  lc_cmp ho (lo_of ha) (fun p1 => lo_of (hb p1)) (fun _ _ => trivial) (fun _ _ => trivial) fun K F H fp fq v u x y Q _ _ r1 r2 q => by
    obtain ⟨_, r1⟩ := r1
    obtain ⟨_, r2⟩ := r2
    cases r1; cases r2
    exact hr x y H Q q
theorem lc_lt (ha : LX X env a (it eI) e1 fa) (hb : ∀ p1, LX X (e1 p1) b (it eI) (e2 p1) (fb p1)) : LC X env .Lt a b (fun p : P1 × P2 => e2 p.1 p.2) (fun k => fa fun x p1 => fb p1 fun y p2 => k (decide (x < y)) (p1, p2)) := lc_int op_lt (fun i j _ _ q => ⟨i, j, rfl, rfl, q⟩) ha hb
theorem lc_le (ha : LX X env a (it eI) e1 fa) (hb : ∀ p1, LX X (e1 p1) b (it eI) (e2 p1) (fb p1)) : LC X env .LtE a b (fun p : P1 × P2 => e2 p.1 p.2) (fun k => fa fun x p1 => fb p1 fun y p2 => k (decide (x ≤ y)) (p1, p2)) := lc_int op_le (fun i j _ _ q => ⟨i, j, rfl, rfl, q⟩) ha hb
theorem lc_gt (ha : LX X env a (it eI) e1 fa) (hb : ∀ p1, LX X (e1 p1) b (it eI) (e2 p1) (fb p1)) : LC X env .Gt a b (fun p : P1 × P2 => e2 p.1 p.2) (fun k => fa fun x p1 => fb p1 fun y p2 => k (decide (y < x)) (p1, p2)) := lc_int op_gt (fun i j _ _ q => ⟨i, j, rfl, rfl, q⟩) ha hb
theorem lc_ge (ha : LX X env a (it eI) e1 fa) (hb : ∀ p1, LX X (e1 p1) b (it eI) (e2 p1) (fb p1)) : LC X env .GtE a b (fun p : P1 × P2 => e2 p.1 p.2) (fun k => fa fun x p1 => fb p1 fun y p2 => k (decide (y ≤ x)) (p1, p2)) := lc_int op_ge (fun i j _ _ q => ⟨i, j, rfl, rfl, q⟩) ha hb
theorem lc_eqI (ha : LX X env a (it eI) e1 fa) (hb : ∀ p1, LX X (e1 p1) b (it eI) (e2 p1) (fb p1)) : LC X env .Eq a b (fun p : P1 × P2 => e2 p.1 p.2) (fun k => fa fun x p1 => fb p1 fun y p2 => k (decide (x = y)) (p1, p2)) :=
  lc_int op_eq (fun i j _ _ q => ⟨rfl, by simpa using q⟩) ha hb
theorem lc_neI (ha : LX X env a (it eI) e1 fa) (hb : ∀ p1, LX X (e1 p1) b (it eI) (e2 p1) (fb p1)) : LC X env .NotEq a b (fun p : P1 × P2 => e2 p.1 p.2) (fun k => fa fun x p1 => fb p1 fun y p2 => k (!decide (x = y)) (p1, p2)) :=
  lc_int op_ne (fun i j _ _ q => ⟨rfl, by simpa using q⟩) ha hb
end
/-! ### truth -/
theorem lt_val {e' : P → Env} {f : (Bool → P → Option Ω) → Option Ω} (h : LX X env a (it eB) e' f) (he : ∀ whole, isTrue a X.env whole = (do let v ← whole; standAt a.pos; holding [v] (truthy v)) := by intro _; rfl) : LT X env a e' f :=
  fun C F H σs es σ k ω Q hK hl hr hk q => tT.of X (pt_val (peC X) he) (lo_run (lo_of h) (fun _ => trivial) hK hl hr hk fun x p1 v F' H' fp hk' h' r => by
    obtain ⟨_, r⟩ := r
    cases r
    exact ⟨x, rfl, q x p1 F' H' hk' h'⟩)
theorem lt_not {e' : P → Env} {f : (Bool → P → Option Ω) → Option Ω} (h : LT X env a e' f) : LT X env (.UnaryOp .Not a pos) e' (fun k => f fun c p => k (!c) p) :=
  fun C F H σs es σ k ω Q hK hl hr hk q => tT.of X (pt_not (ptC X)) (h C F H σs es σ _ ω _ hK hl hr hk fun c p F' H' hk' h' => q _ p F' H' hk' h')
end
end Z

set_option Elab.async false
set_option linter.all false
set_option maxRecDepth 100000
namespace Z
open PySem PySem.Spec PyProof.Rows L2

/-! ### arguments -/
section
variable {X : Cx} {Ω : Type} {env : Env} {nm : Str} {pos : Pos} {a b e : Expr} {xs : List Expr} {P P1 P2 A : Type} {τ τ1 τ2 α β : Type} {S : Stor τ} {S1 : Stor τ1} {S2 : Stor τ2} {E : Enc τ} {E1 : Enc τ1} {E2 : Enc τ2}
  {G : Env → Prop} {G1 : Env → Prop} {G2 : P1 → Env → Prop} {e' : P → Env} {e1 : P1 → Env} {e2 : P1 → P2 → Env} {fa : (τ1 → P1 → Option Ω) → Option Ω} {fb : P1 → (τ2 → P2 → Option Ω) → Option Ω} {f : (τ → P → Option Ω) → Option Ω}

theorem la_nil : LA X env [] (fun _ : Unit => []) (fun _ : Unit => env) (fun (k : Unit → Unit → Option Ω) => k () ()) :=
  fun C F H σs es σ k ω Q hK hl h hk q => tAs.of X pa_nil (q () () [] F H hk rfl h)
theorem la_cons {sl : A → Env} {fr : P1 → (A → P2 → Option Ω) → Option Ω} (h1 : LX X env e S1 e1 fa) (h2 : ∀ p1, LA X (e1 p1) xs sl (e2 p1) (fr p1)) (hs : starEach (e :: xs) X.env = (false, eval e X.env) :: starEach xs X.env := by rfl) :
    LA X env (e :: xs) (fun p : τ1 × A => .st none τ1 S1 p.1 :: sl p.2) (fun p : P1 × P2 => e2 p.1 p.2) (fun k => fa fun x p1 => fr p1 fun r p2 => k (x, r) (p1, p2)) :=
  fun C F H σs es σ k ω Q hK hl h hk q => tAs.of X (pa_cons (peC X) (paC X) hs) (h1 C F H σs es σ _ ω _ hK hl h hk fun x p1 v F' H' hk' h' =>
    h2 p1 C F' H' (some v :: σs) (.st none τ1 S1 x :: es) σ _ ω _ hK (by simp [hl]) h' hk' fun r p2 vs F2 H2 hk2 hlv h3 => by
      refine q (x, r) (p1, p2) (v :: vs) F2 H2 hk2 (by simpa using hlv) ?_
      exact ER.rot (σt := vs.map some) (et := sl r) h3 hlv)
/-- a name by its value alone: lent to a call -/
theorem la_lend {sl : A → Env} {fr : (A → P → Option Ω) → Option Ω} (i : Nat) {w : Option V} {x : τ} (he : env[i]? = some (.st w τ S x)) (hN : X.N[i]? = some nm) (hv : Vis X.env.scope nm) (h2 : LA X env xs sl e' fr) (hd : (nm == ("__debug__" : Str)) = false := by decide) (hcd : (nm == ("__classdict__" : Str)) = false := by decide)
    (hs : starEach (Expr.Name nm pos :: xs) X.env = (false, eval (Expr.Name nm pos) X.env) :: starEach xs X.env := by rfl) :
    ∀ (C : Ck) (F H : Hp) (σs : List (Option V)) (es : Env) (σ : List (Option V)) (k : A → P → Option Ω) (ω : Ω) (Q : List V → Hp → Prop), C.K = X.K → σs.length = es.length → ER C F H (σs ++ σ) (es ++ env) → fr k = some ω →
    (∀ a p (v : V) (vs : List V) F' H', k a p = some ω → σ[i]? = some (some v) → (vs.map some).length = (sl a).length → ER C F' H' (vs.map some ++ (σs ++ σ)) (sl a ++ (es ++ e' p)) → Q (v :: vs) H') → tAs X (Expr.Name nm pos :: xs) σ H Q :=
  fun C F H σs es σ k ω Q hK hl h hk q => tAs.of X (pa_cons (peC X) (paC X) hs) (tE.of X (pe_var hN hv hd hcd) (by
    obtain ⟨v, fp, e1, r⟩ := h.lookF hl he
    exact ⟨v, e1, h2 C F H σs es σ k ω _ hK hl h hk fun a p vs F' H' hk' hlv h' => q a p v vs F' H' hk' e1 hlv h'⟩))
/-- shared slots and the data in them -/
inductive ShL : Env → List PyData → Prop
  | nil : ShL [] []
  | cons {τ : Type} {E : Enc τ} {x : τ} {en : Env} {ds : List PyData} : ShL en ds → ShL (.st none τ (it E) x :: en) (E.enc x :: ds)
theorem ShL.rep {C : Ck} {F H : Hp} : ∀ {sl : Env} {ds : List PyData}, ShL sl ds → ∀ {vs : List V} {σ : List (Option V)} {env : Env}, (vs.map some).length = sl.length → ER C F H (vs.map some ++ σ) (sl ++ env) → RepAll C.K F vs ds
  | _, _, .nil, vs, σ, env, hl, h => by
    cases vs with
    | nil => exact .nil
    | cons v vs => simp at hl
  | _, _, .cons r, vs, σ, env, hl, h => by
    cases vs with
    | nil => simp at hl
    | cons v vs =>
      obtain ⟨v', fp, e1, q⟩ := h.look (i := 0) rfl
      simp at e1; subst e1
      exact .cons q.2 (r.rep (by simpa using hl) h.pop)
theorem RepAll.zero {K : Fg} {F : Hp} {τ : Type} {E : Enc τ} {H : Hp} : ∀ {vs : List V} {xs : List τ}, RepAll K F vs (xs.map E.enc) → RelAll ((it E).rel K F H) [] vs xs
  | [], [], _ => .nil
  | [], _ :: _, h => by cases h
  | _ :: _, [], h => by cases h
  | v :: vs, x :: xs, h => by
    cases h with
    | cons h1 h2 => exact RelAll.cons (fp := []) (fps := []) ⟨rfl, h1⟩ (RepAll.zero h2)
theorem RelAll.zero {K : Fg} {F : Hp} {τ : Type} {E : Enc τ} {H : Hp} : ∀ {fp : List Addr} {vs : List V} {xs : List τ}, RelAll ((it E).rel K F H) fp vs xs → fp = [] ∧ RepAll K F vs (xs.map E.enc)
  | _, _, _, .nil => ⟨rfl, .nil⟩
  | _, _, _, .cons h r => by
    obtain ⟨e, q⟩ := RelAll.zero r
    obtain ⟨e2, q2⟩ := h
    exact ⟨by rw [e, e2]; rfl, .cons q2 q⟩
/-- a tuple -/
theorem lx_tup {sl : A → Env} {fs : (A → P → Option Ω) → Option Ω} {j : Nat} (h : LA X env xs sl e' fs) (E : Enc τ) (g : A → τ) (ds : A → List PyData) (hd : ∀ a, ShL (sl a) (ds a)) (he : ∀ a, E.enc (g a) = .tuple (ds a)) (hz : xs.length ≤ 1000 := by decide) (hz2 : ∀ a, (sl a).length = xs.length := by intro _; rfl) :
    LX X env (.Tuple xs j pos) (it E) e' (fun k => fs fun a p => k (g a) p) :=
  fun C F H σs es σ k ω Q hK hl hr hk q => tE.of X (pe_tup (paC X)) (h C F H σs es σ _ ω _ hK hl hr hk fun a p vs F' H' hk' hlv h' => by
    refine ⟨?_, fun t nt => ?_⟩
    · have := hz2 a; simp at hlv; exact Nat.le_of_lt (small1000 (by omega))
    · have r := (hd a).rep hlv h'
      refine q (g a) p (.ref t) (upd F' t (.tup vs)) _ hk' (((h'.popN hlv).newF nt).pushSh ?_)
      rw [he]
      exact .tup (SqT.of upd_same) (r.mono (same_new ((h'.popN hlv).fnone nt))))
/-- a list of shared things: a new one, of one's own -/
theorem lx_list {sl : A → Env} {fs : (A → P → Option Ω) → Option Ω} (h : LA X env xs sl e' fs) (E : Enc τ) (g : A → List τ) (hd : ∀ a, ShL (sl a) ((g a).map E.enc)) (hz : xs.length ≤ 1000 := by decide) (hz2 : ∀ a, (sl a).length = xs.length := by intro _; rfl) :
    LX X env (.List xs pos) (ls (it E)) e' (fun k => fs fun a p => k (g a) p) :=
  fun C F H σs es σ k ω Q hK hl hr hk q => tE.of X (pe_lst (paC X)) (h C F H σs es σ _ ω _ hK hl hr hk fun a p vs F' H' hk' hlv h' => by
    refine ⟨?_, fun t nt => ?_⟩
    · have := hz2 a; simp at hlv; exact Nat.le_of_lt (small1000 (by omega))
    · have r := (hd a).rep hlv h'
      exact q (g a) p (.ref t) F' _ hk' ((h'.popN hlv).newOw nt ⟨t, vs, [], rfl, upd_same, r.zero, rfl⟩))

/-! ### sequences that are read -/
/-- a list that is tracked -/
structure LVm (S : Stor τ) (S1 : Stor α) (g : τ → List α) : Prop where
  view : ∀ {K : Fg} {F H : Hp} {fp : List Addr} {v : V} {x : τ}, Same F H → S.rel K F H fp v x → ∃ p vs fps, v = .ref p ∧ H p = some (.lst vs) ∧ RelAll (S1.rel K F H) fps vs (g x)
/-- a list -/
structure LVw (S : Stor τ) (S1 : Stor α) (g : τ → List α) : Prop where
  view : ∀ {K : Fg} {F H : Hp} {fp : List Addr} {v : V} {x : τ}, Same F H → S.rel K F H fp v x → ∃ p vs fps, v = .ref p ∧ SqL K H p vs ∧ RelAll (S1.rel K F H) fps vs (g x)
structure TVw (S : Stor τ) (S1 : Stor α) (g : τ → List α) : Prop where
  view : ∀ {K : Fg} {F H : Hp} {fp : List Addr} {v : V} {x : τ}, Same F H → S.rel K F H fp v x → ∃ p vs fps, v = .ref p ∧ SqT K H p vs ∧ RelAll (S1.rel K F H) fps vs (g x)
theorem LVm.w {S1 : Stor α} {g : τ → List α} (h : LVm S S1 g) : LVw S S1 g := ⟨fun s r => let ⟨p, vs, fps, e, h1, h2⟩ := h.view s r; ⟨p, vs, fps, e, SqL.of h1, h2⟩⟩
theorem lm_sh : LVm (it (eL E)) (it E) id := ⟨fun {K F H fp v x} s r => by
  obtain ⟨_, r⟩ := r
  generalize hd : (eL E).enc x = d at r
  cases r with
  | lst h1 h2 =>
    simp only [eL] at hd
    injection hd with hd
    subst hd
    exact ⟨_, _, _, rfl, s _ _ h1, h2.zero⟩
  | _ => simp [eL] at hd⟩
theorem lm_ow {S1 : Stor α} : LVm (ls S1) S1 id := ⟨fun {K F H fp v x} s r => by
  obtain ⟨p, vs, fps, rfl, h, q, rfl⟩ := r
  exact ⟨p, vs, fps, rfl, h, q⟩⟩
theorem tv_sh : TVw (it (eV E)) (it E) id := ⟨fun {K F H fp v x} s r => by
  obtain ⟨_, r⟩ := r
  generalize hd : (eV E).enc x = d at r
  cases r with
  | tup h1 h2 =>
    simp only [eV] at hd
    injection hd with hd
    subst hd
    exact ⟨_, _, _, rfl, same_sqT s h1, h2.zero⟩
  | _ => simp [eV] at hd⟩
theorem atI_map {α β : Type} (f : α → β) (xs : List α) (i : Int) : atI (xs.map f) i = (atI xs i).map f := by
  unfold atI
  rw [List.length_map]
  cases ixN xs.length i with
  | none => rfl
  | some j => simp
theorem RepAll.at {K : Fg} {F : Hp} {vs : List V} {xs : List τ} {i : Int} {y : τ} (h : RepAll K F vs (xs.map E.enc)) (e : atI xs i = some y) : ∃ v, atI vs i = some v ∧ Rep K F v (E.enc y) := by
  have hl : vs.length = xs.length := by have := h.length; simpa using this
  unfold atI at e ⊢
  rw [hl]
  cases hj : ixN xs.length i with
  | none => rw [hj] at e; cases e
  | some j =>
    rw [hj] at e
    have e' : xs[j]? = some y := e
    obtain ⟨v, h1, h2⟩ := h.get (i := j) (d := E.enc y) (by rw [List.getElem?_map, e']; rfl)
    exact ⟨v, h1, h2⟩
/-- xs[i] of a list -/
theorem lx_ix {g : τ1 → List α} {E1 : Enc α} {fb : P1 → (Int → P2 → Option Ω) → Option Ω} (hv : LVw S1 (it E1) g) (ha : LO X G env a S1 e1 fa) (hb : ∀ p1, LX X (e1 p1) b (it eI) (e2 p1) (fb p1)) (hg : ∀ p1 p2, G (e2 p1 p2)) (hp : PlainIx b := by exact fun _ _ => rfl) :
    LX X env (.Subscript a b pos) (it E1) (fun p : P1 × P2 => e2 p.1 p.2) (fun k => fa fun x p1 => fb p1 fun i p2 => (atI (g x) i).bind fun y => k y (p1, p2)) :=
  fun C F H σs es σ k ω Q hK hl h hk q => tE.of X (pe_ix ix_list (peC X) (peC X) hp) (op2_run ha (fun p1 => lo_of (hb p1)) hg (fun _ _ => trivial) hK hl h hk
    fun x p1 i p2 v u F' H' fp fq hk' h' r1 r2 => by
      obtain ⟨y, hy, hk'⟩ := bind_some hk'
      obtain ⟨_, r2⟩ := r2
      cases r2
      obtain ⟨p, vs, fps, rfl, hs, ra⟩ := hv.view h'.sF r1
      obtain ⟨w, hw, rw'⟩ := ra.zero.2.at hy
      exact ⟨p, vs, i, w, rfl, rfl, by rw [← hK]; exact hs, hw, q y (p1, p2) w F' H' hk' (h'.pushSh rw')⟩)
/-- .. of a tuple of one kind -/
theorem lx_ixV {g : τ1 → List α} {E1 : Enc α} {fb : P1 → (Int → P2 → Option Ω) → Option Ω} (hv : TVw S1 (it E1) g) (ha : LO X G env a S1 e1 fa) (hb : ∀ p1, LX X (e1 p1) b (it eI) (e2 p1) (fb p1)) (hg : ∀ p1 p2, G (e2 p1 p2)) (hp : PlainIx b := by exact fun _ _ => rfl) :
    LX X env (.Subscript a b pos) (it E1) (fun p : P1 × P2 => e2 p.1 p.2) (fun k => fa fun x p1 => fb p1 fun i p2 => (atI (g x) i).bind fun y => k y (p1, p2)) :=
  fun C F H σs es σ k ω Q hK hl h hk q => tE.of X (pe_ix ix_tup (peC X) (peC X) hp) (op2_run ha (fun p1 => lo_of (hb p1)) hg (fun _ _ => trivial) hK hl h hk
    fun x p1 i p2 v u F' H' fp fq hk' h' r1 r2 => by
      obtain ⟨y, hy, hk'⟩ := bind_some hk'
      obtain ⟨_, r2⟩ := r2
      cases r2
      obtain ⟨p, vs, fps, rfl, hs, ra⟩ := hv.view h'.sF r1
      obtain ⟨w, hw, rw'⟩ := ra.zero.2.at hy
      exact ⟨p, vs, i, w, rfl, rfl, by rw [← hK]; exact hs, hw, q y (p1, p2) w F' H' hk' (h'.pushSh rw')⟩)
/-- the n-th part of a tuple that has parts of its own kinds -/
structure Part (E : Enc τ) (n : Int) (E1 : Enc α) (g : τ → α) : Prop where
  is : ∀ x, ∃ ds, E.enc x = .tuple ds ∧ atI ds n = some (E1.enc (g x))
theorem Rep.tup_inv {K : Fg} {F : Hp} {v : V} {ds : List PyData} (h : Rep K F v (.tuple ds)) : ∃ p vs, v = .ref p ∧ SqT K F p vs ∧ RepAll K F vs ds := by
  cases h with
  | tup h1 h2 => exact ⟨_, _, rfl, h1, h2⟩
theorem Rep.lst_inv {K : Fg} {F : Hp} {v : V} {ds : List PyData} (h : Rep K F v (.list ds)) : ∃ p vs, v = .ref p ∧ F p = some (.lst vs) ∧ RepAll K F vs ds := by
  cases h with
  | lst h1 h2 => exact ⟨_, _, rfl, h1, h2⟩
theorem RepAll.atD {K : Fg} {F : Hp} {vs : List V} {ds : List PyData} {i : Int} {y : PyData} (h : RepAll K F vs ds) (e : atI ds i = some y) : ∃ v, atI vs i = some v ∧ Rep K F v y := by
  have hl : vs.length = ds.length := h.length
  unfold atI at e ⊢
  rw [hl]
  cases hj : ixN ds.length i with
  | none => rw [hj] at e; cases e
  | some j =>
    rw [hj] at e
    exact h.get e
theorem lx_part {n : Int} {g : τ1 → α} {E' : Enc α} {j : Nat} {cp : Pos} (hp : Part E1 n E' g) (ha : LX X env a (it E1) e1 fa) :
    LX X env (.Subscript a (.Constant (.int n) j cp) pos) (it E') e1 (fun k => fa fun x p1 => k (g x) p1) :=
  fun C F H σs es σ k ω Q hK hl h hk q => tE.of X (pe_ix ix_tup (peC X) pe_int fun _ _ => rfl) (lo_run (lo_of ha) (fun _ => trivial) hK hl h hk
    fun x p1 v F' H' fp hk' h' r1 => by
      obtain ⟨_, r1⟩ := r1
      obtain ⟨ds, e1, e2⟩ := hp.is x
      rw [e1] at r1
      obtain ⟨p, vs, rfl, h1, h2⟩ := r1.tup_inv
      obtain ⟨w, hw, rw'⟩ := h2.atD e2
      exact ⟨p, vs, n, w, rfl, rfl, by rw [← hK]; exact same_sqT h'.sF h1, hw, q (g x) p1 w F' H' hk' (h'.pushSh rw')⟩)
/-- .. n below 0: -1 -/
theorem lx_partN {n : Int} {g : τ1 → α} {E' : Enc α} {j : Nat} {cp up : Pos} (hp : Part E1 (-n) E' g) (ha : LX X env a (it E1) e1 fa) :
    LX X env (.Subscript a (.UnaryOp .USub (.Constant (.int n) j cp) up) pos) (it E') e1 (fun k => fa fun x p1 => k (g x) p1) :=
  fun C F H σs es σ k ω Q hK hl h hk q => tE.of X (pe_ix ix_tup (peC X) (pe_un un_neg pe_int) fun _ _ => rfl) (lo_run (lo_of ha) (fun _ => trivial) hK hl h hk
    fun x p1 v F' H' fp hk' h' r1 => by
      obtain ⟨_, r1⟩ := r1
      obtain ⟨ds, e1, e2⟩ := hp.is x
      rw [e1] at r1
      obtain ⟨p, vs, rfl, h1, h2⟩ := r1.tup_inv
      obtain ⟨w, hw, rw'⟩ := h2.atD e2
      exact ⟨n, rfl, p, vs, -n, w, rfl, rfl, by rw [← hK]; exact same_sqT h'.sF h1, hw, q (g x) p1 w F' H' hk' (h'.pushSh rw')⟩)
theorem part2_0 {A : Enc α} {B : Enc β} : Part (eT2 A B) 0 A (·.1) := ⟨fun _ => ⟨_, rfl, rfl⟩⟩
theorem part2_1 {A : Enc α} {B : Enc β} : Part (eT2 A B) 1 B (·.2) := ⟨fun _ => ⟨_, rfl, rfl⟩⟩
theorem part3_0 {γ : Type} {A : Enc α} {B : Enc β} {D : Enc γ} : Part (eT3 A B D) 0 A (·.1) := ⟨fun _ => ⟨_, rfl, rfl⟩⟩
theorem part3_1 {γ : Type} {A : Enc α} {B : Enc β} {D : Enc γ} : Part (eT3 A B D) 1 B (·.2.1) := ⟨fun _ => ⟨_, rfl, rfl⟩⟩
theorem part3_2 {γ : Type} {A : Enc α} {B : Enc β} {D : Enc γ} : Part (eT3 A B D) 2 D (·.2.2) := ⟨fun _ => ⟨_, rfl, rfl⟩⟩
theorem part4_0 {γ δ : Type} {A : Enc α} {B : Enc β} {D : Enc γ} {D' : Enc δ} : Part (eT4 A B D D') 0 A (·.1) := ⟨fun _ => ⟨_, rfl, rfl⟩⟩
theorem part4_1 {γ δ : Type} {A : Enc α} {B : Enc β} {D : Enc γ} {D' : Enc δ} : Part (eT4 A B D D') 1 B (·.2.1) := ⟨fun _ => ⟨_, rfl, rfl⟩⟩
theorem part4_2 {γ δ : Type} {A : Enc α} {B : Enc β} {D : Enc γ} {D' : Enc δ} : Part (eT4 A B D D') 2 D (·.2.2.1) := ⟨fun _ => ⟨_, rfl, rfl⟩⟩
theorem part4_3 {γ δ : Type} {A : Enc α} {B : Enc β} {D : Enc γ} {D' : Enc δ} : Part (eT4 A B D D') 3 D' (·.2.2.2) := ⟨fun _ => ⟨_, rfl, rfl⟩⟩
end
end Z

set_option Elab.async false
set_option linter.all false
set_option maxRecDepth 100000
namespace Z
open PySem PySem.Spec PyProof.Rows L2

/-! ### targets -/
def Eqo (ix : List Nat) (σ σ' : List (Option V)) : Prop := σ'.length = σ.length ∧ ∀ j, j ∉ ix → σ'[j]? = σ[j]?
theorem Eqo.refl (ix : List Nat) (σ : List (Option V)) : Eqo ix σ σ := ⟨rfl, fun _ _ => rfl⟩
theorem Eqo.trans {ix : List Nat} {a b c : List (Option V)} (h : Eqo ix a b) (g : Eqo ix b c) : Eqo ix a c := ⟨g.1.trans h.1, fun j m => (g.2 j m).trans (h.2 j m)⟩
theorem Eqo.mono {ix iy : List Nat} {a b : List (Option V)} (h : Eqo ix a b) (s : ∀ j ∈ ix, j ∈ iy) : Eqo iy a b := ⟨h.1, fun j m => h.2 j fun z => m (s j z)⟩
theorem Eqo.set {σ : List (Option V)} {i : Nat} {o : Option V} : Eqo [i] σ (σ.set i o) := ⟨by simp, fun j m => List.getElem?_set_ne (by simp at m; omega)⟩
theorem wipe_get (σ : List (Option V)) : ∀ (vs : List Nat) (j : Nat), (wipe σ vs)[j]? = if j ∈ vs then (if j < σ.length then some none else none) else σ[j]?
  | [], j => by simp [wipe]
  | v :: vs, j => by
    unfold wipe
    by_cases e : v = j
    · subst e
      by_cases hl : v < σ.length
      · rw [List.getElem?_set_self (by rw [wipe_length]; exact hl)]; simp [hl]
      · rw [List.getElem?_eq_none (by rw [List.length_set, wipe_length]; omega)]; simp [hl]
    · rw [List.getElem?_set_ne e, wipe_get σ vs j]
      have : (j ∈ v :: vs) = (j ∈ vs) := by simp; intro z; exact absurd z.symm e
      simp only [this]
theorem Eqo.wipe {ix : List Nat} {a b : List (Option V)} (h : Eqo ix a b) : wipe b ix = wipe a ix := by
  apply List.ext_getElem?
  intro j
  rw [wipe_get, wipe_get, h.1]
  by_cases m : j ∈ ix
  · rw [if_pos m, if_pos m]
  · rw [if_neg m, if_neg m]; exact h.2 j m
section
variable (X : Cx)
def tG (tg : Expr) : TG := fun v σ H Q => ∀ pins s u, Inv X pins σ H s → RelV v u → wpAny (model X.prog X.w) X.A (assign tg X.env u) (fun _ s' => ∃ σ' H', Inv X pins σ' H' s' ∧ Q σ' H') X.xe s
def tGs (ts : List Expr) : TGs := fun vs σ H Q => ∀ pins s us, Inv X pins σ H s → Vals vs us → wpAny (model X.prog X.w) X.A (assignInOrder ((assignEach ts X.env).map (·.2)) us) (fun _ s' => ∃ σ' H', Inv X pins σ' H' s' ∧ Q σ' H') X.xe s
theorem pgC {tg : Expr} : PG X tg (tG X tg) := ⟨fun pins s σ H v u Q I r h => h pins s u I r⟩
theorem pgsC {ts : List Expr} : PGs X ts (tGs X ts) := ⟨fun pins s σ H vs us Q I r h => h pins s us I r⟩
theorem tG.of {tg : Expr} {t : TG} {v : V} {σ : L2.St} {H : Hp} {Q : L2.St → Hp → Prop} (h : PG X tg t) (q : t v σ H Q) : tG X tg v σ H Q := fun pins s u I r => h.run pins s σ H v u Q I r q
theorem tGs.of {ts : List Expr} {t : TGs} {vs : List V} {σ : L2.St} {H : Hp} {Q : L2.St → Hp → Prop} (h : PGs X ts t) (q : t vs σ H Q) : tGs X ts vs σ H Q := fun pins s us I r => h.run pins s σ H vs us Q I r q
/-- a target: where its value goes -/
def LG (ix : List Nat) (env : Env) (tg : Expr) {τ : Type} (S : Stor τ) (envT : τ → Env) : Prop :=
  ∀ (C : Ck) (F H : Hp) (σs : List (Option V)) (es : Env) (σ : List (Option V)) (v : V) (a : τ) (Q : L2.St → Hp → Prop), C.K = X.K → σs.length = es.length → ER C F H (some v :: (σs ++ σ)) (.st none τ S a :: (es ++ env)) →
    (∀ σ', Eqo ix σ σ' → ER C F H (σs ++ σ') (es ++ envT a) → Q σ' H) → tG X tg v σ H Q
/-- targets for the parts of a tuple -/
def LGs (ix : List Nat) (env : Env) (tgs : List Expr) {A : Type} (sl : A → Env) (envT : A → Env) : Prop :=
  ∀ (C : Ck) (F H : Hp) (σs : List (Option V)) (es : Env) (σ : List (Option V)) (vs : List V) (a : A) (Q : L2.St → Hp → Prop), C.K = X.K → σs.length = es.length → (vs.map some).length = (sl a).length → ER C F H (vs.map some ++ (σs ++ σ)) (sl a ++ (es ++ env)) →
    (∀ σ', Eqo ix σ σ' → ER C F H (σs ++ σ') (es ++ envT a) → Q σ' H) → tGs X tgs vs σ H Q
end
section
variable {X : Cx} {Ω : Type} {env : Env} {nm : Str} {pos : Pos} {a b e tg : Expr} {xs tgs : List Expr} {P P1 P2 A : Type} {τ τ1 τ2 α β : Type} {S : Stor τ} {S1 : Stor τ1} {S2 : Stor τ2} {E : Enc τ} {E1 : Enc τ1} {E2 : Enc τ2} {ix : List Nat}
theorem lg_name (i : Nat) (hN : X.N.Nodup) (hi : X.N[i]? = some nm := by rfl) (hx : Loc X.env.scope nm := by first | exact Or.inl rfl | exact Or.inr rfl) (hl : i < env.length := by exact (Nat.lt_of_sub_eq_succ rfl)) (hf : X.fn nm = true ∨ X.env.scope.names.lookup nm = some .local := by first | exact .inl rfl | exact .inr rfl) : LG X [i] env (.Name nm pos) S (fun a => env.set i (.st none τ S a)) :=
  fun C F H σs es σ v a Q hK hls h q => tG.of X (pg_name hN hi hx hf) (q _ Eqo.set (h.asg hls hl))
theorem lgs_nil : LGs X [] env [] (fun _ : Unit => []) (fun _ : Unit => env) := fun C F H σs es σ vs a Q hK hl hv h q => tGs.of X pgs_nil (by
  cases vs with
  | nil => exact ⟨rfl, q σ (Eqo.refl _ _) h⟩
  | cons v vs => simp at hv)
theorem lgs_cons {i1 i2 : List Nat} {env1 : τ → Env} {sl : A → Env} {env2 : τ → A → Env} (h1 : LG X i1 env tg S env1) (h2 : ∀ x, LGs X i2 (env1 x) tgs sl (env2 x))
    (hs : (assignEach (tg :: tgs) X.env).map (·.2) = assign tg X.env :: (assignEach tgs X.env).map (·.2) := by rfl) : LGs X (i1 ++ i2) env (tg :: tgs) (fun p : τ × A => .st none τ S p.1 :: sl p.2) (fun p : τ × A => env2 p.1 p.2) :=
  fun C F H σs es σ vs a Q hK hl hv h q => tGs.of X (pgs_cons (pgC X) (pgsC X) hs) (by
    cases vs with
    | nil => simp at hv
    | cons v vs =>
      have hv' : (vs.map some).length = (sl a.2).length := by simpa using hv
      refine ⟨v, vs, rfl, h1 C F H (vs.map some ++ σs) (sl a.2 ++ es) σ v a.1 _ hK (by simp [hl]; simpa using hv') (by simpa [List.append_assoc] using h) fun σ' e1 h' => ?_⟩
      exact h2 a.1 C F H σs es σ' vs a.2 Q hK hl hv' (by simpa [List.append_assoc] using h') fun σ2 e2 h3 => q σ2 ((e1.mono fun j m => List.mem_append_left _ m).trans (e2.mono fun j m => List.mem_append_right _ m)) h3)
/-- data that stand on the stack as shared slots -/
theorem ER.pushAll {C : Ck} {F H : Hp} : ∀ {sl : Env} {ds : List PyData}, ShL sl ds → ∀ {vs : List V} {σ : List (Option V)} {env : Env}, RepAll C.K F vs ds → ER C F H σ env → (vs.map some).length = sl.length ∧ ER C F H (vs.map some ++ σ) (sl ++ env)
  | _, _, .nil, _, σ, env, r, h => by cases r; exact ⟨rfl, h⟩
  | _, _, .cons q, _, σ, env, r, h => by
    cases r with
    | cons r1 r2 =>
      obtain ⟨e, h'⟩ := ER.pushAll q r2 h
      exact ⟨by simpa using e, h'.pushSh r1⟩
theorem lg_tup {sl : A → Env} {envT : A → Env} {j n : Nat} (h : LGs X ix env tgs sl envT) (g : τ → A) (ds : A → List PyData) (hd : ∀ a, ShL (sl a) (ds a)) (he : ∀ x, E.enc x = .tuple (ds (g x))) (hc : X.calm = true)
    (hz : ∀ a, (sl a).length = n) (hn : (assignEach tgs X.env).length = n := by rfl) (hst : (assignEach tgs X.env).findIdx? (·.1) = none := by rfl) : LG X ix env (.Tuple tgs j pos) (it E) (fun x => envT (g x)) :=
  fun C F H σs es σ v a Q hK hl hr q => tG.of X (pg_tup hc (pgsC X) hn hst) (by
    obtain ⟨v', fp, e1, r⟩ := hr.look (i := 0) rfl
    simp at e1; subst e1
    obtain ⟨_, r⟩ := r
    rw [he] at r
    obtain ⟨p, vs, rfl, h1, h2⟩ := r.tup_inv
    obtain ⟨hlv, h'⟩ := ER.pushAll (hd (g a)) h2 hr.pop
    have hl2 : vs.length = n := by have := hz (g a); simp at hlv; omega
    exact ⟨p, vs, rfl, by rw [← hK]; exact same_sqT hr.sF h1, hl2, h C F H σs es σ vs (g a) Q hK hl hlv h' q⟩)
end

/-! ### what is walked -/
section
variable (X : Cx) {Ω : Type}
def tI (tg iter : Expr) : TI := fun σ H R => ∀ pins s, Inv X pins σ H s → wpAny (model X.prog X.w) X.A (eval iter X.env) (fun v s1 => wpAny (model X.prog X.w) X.A (pyIter v) (PIE X pins σ tg R) X.xe s1) X.xe s
theorem piC {tg iter : Expr} : PI X tg iter (tI X tg iter) := ⟨fun pins s σ H R I h => h pins s I⟩
theorem tI.of {tg iter : Expr} {t : TI} {σ : L2.St} {H : Hp} {R : It → Hp → Prop} (h : PI X tg iter t) (q : t σ H R) : tI X tg iter σ H R := fun pins s I => h.run pins s σ H R I q
/-- J yields xs, as long as the stack's top stands; each item may make new things -/
structure Yields (C : Ck) {α : Type} (S : Stor α) (J : It) (xs : List α) (σx : List (Option V)) (ex : Env) : Prop where
  len : σx.length = ex.length
  go : ∀ (i : Nat) (F H : Hp) (σ2 σb : List (Option V)) (e2 eb : Env), σ2.length = e2.length → ER C F H (σ2 ++ (σx ++ σb)) (e2 ++ (ex ++ eb)) →
    (∀ x, xs[i]? = some x → J.go i H ∧ ∀ v H', J.yld i H v H' → ∃ F', ER C F' H' (some v :: (σ2 ++ (σx ++ σb))) (.st none α S x :: (e2 ++ (ex ++ eb)))) ∧ (xs[i]? = none → J.stop i H)
def LI (env : Env) (tg iter : Expr) {α : Type} (S : Stor α) {P : Type} (env' : P → Env) (f : (List α → P → Option Ω) → Option Ω) : Prop :=
  ∀ (C : Ck) (F H : Hp) (σs : List (Option V)) (es : Env) (σ : List (Option V)) (k : List α → P → Option Ω) (ω : Ω) (R : It → Hp → Prop), C.K = X.K → σs.length = es.length → ER C F H (σs ++ σ) (es ++ env) → f k = some ω →
    (∀ xs p J F' H' (σx : List (Option V)) (ex : Env), k xs p = some ω → ER C F' H' (σx ++ (σs ++ σ)) (ex ++ (es ++ env' p)) → Yields C S J xs σx ex → R J H') → tI X tg iter σ H R
end
section
variable {X : Cx} {Ω : Type} {env : Env} {nm : Str} {pos : Pos} {a b e tg : Expr} {xs tgs : List Expr} {P P1 P2 A : Type} {τ τ1 τ2 α β : Type} {S : Stor τ} {S1 : Stor τ1} {S2 : Stor τ2} {E : Enc τ} {E1 : Enc τ1} {E2 : Enc τ2} {ix : List Nat} {e' : P → Env} {e1 : P1 → Env} {e2 : P1 → P2 → Env}
theorem li_list {g : τ → List α} {Ea : Enc α} {f : (τ → P → Option Ω) → Option Ω} (hv : LVw S (it Ea) g) (h : LX X env e S e' f) : LI X env tg e (it Ea) e' (fun k => f fun x p => k (g x) p) :=
  fun C F H σs es σ k ω R hK hl hr hk q => tI.of X (pi_list (peC X)) (h C F H σs es σ _ ω _ hK hl hr hk fun x p v F' H' hk' h' => by
    obtain ⟨v', fp, e1, r⟩ := h'.look (i := 0) rfl
    simp at e1; subst e1
    obtain ⟨p0, vs, fps, rfl, hs, ra⟩ := hv.view h'.sF r
    refine ⟨p0, rfl, ⟨vs, by rw [← hK]; exact hs⟩, q (g x) p (Itl X.K p0) F' H' [some (.ref p0)] [.st none τ S x] hk' h' ⟨rfl, fun i F2 H2 σ2 σb e2 eb hl2 h2 => ?_⟩⟩
    obtain ⟨v', fp', e1, r'⟩ := h2.look (i := e2.length + 0) (by rw [at_app _ rfl]; rfl)
    rw [at_app _ hl2] at e1
    simp at e1; subst e1
    obtain ⟨p1, ws, fps', e3, hs', ra'⟩ := hv.view h2.sF r'
    cases e3
    rw [hK] at hs'
    have rp := ra'.zero.2
    refine ⟨fun y hy => ?_, fun hn => ?_⟩
    · obtain ⟨w, hw, rw'⟩ := rp.get (i := i) (d := Ea.enc y) (by rw [List.getElem?_map, hy]; rfl)
      refine ⟨⟨ws, w, hs', hw⟩, fun v H' hy' => ⟨F2, ?_⟩⟩
      obtain ⟨e4, hy'⟩ := hy'
      have := hy' ws hs'
      rw [hw] at this; cases this
      rw [e4]
      exact h2.pushSh rw'
    · refine ⟨ws, hs', ?_⟩
      have := rp.length
      simp at this
      have := List.getElem?_eq_none_iff.mp hn
      omega)
/-- the ints of a range -/
def rangeL (lo hi : Int) : List Int := (List.range (hi - lo).toNat).map fun i => lo + (i : Nat)
def rgOk (lo hi : Int) : Bool := decide (-(2 ^ 62) ≤ lo ∧ lo < 2 ^ 62 ∧ -(2 ^ 62) ≤ hi ∧ hi < 2 ^ 62)
theorem yields_range {C : Ck} {lo : Int} {hi : Int} : Yields C (it eI) (Itr lo (hi - lo).toNat) (rangeL lo hi) [] [] := ⟨rfl, fun i F H σ2 σb e2 eb hl2 h2 => by
  refine ⟨fun y hy => ?_, fun hn => ?_⟩
  · unfold rangeL at hy
    rw [List.getElem?_map] at hy
    by_cases hi : i < (hi - lo).toNat
    · rw [List.getElem?_range hi] at hy
      simp at hy; subst hy
      refine ⟨hi, fun v H' hy' => ⟨F, ?_⟩⟩
      obtain ⟨e1, e2⟩ := hy'
      rw [e1, e2]
      exact h2.pushSh (.int _)
    · rw [List.getElem?_eq_none (by simpa using hi)] at hy; cases hy
  · unfold rangeL at hn
    rw [List.getElem?_eq_none_iff] at hn
    simp at hn
    show (hi - lo).toNat ≤ i
    omega⟩
theorem li_range2 {f1 : (Int → P1 → Option Ω) → Option Ω} {f2 : P1 → (Int → P2 → Option Ω) → Option Ω} {p : Pos} (hg : Gl X "range") (hm : X.mg "range" = none) (h1 : LX X env a (it eI) e1 f1) (h2 : ∀ p1, LX X (e1 p1) b (it eI) (e2 p1) (f2 p1))
    (hs : starEach [a, b] X.env = [(false, eval a X.env), (false, eval b X.env)] := by rfl) (hs2 : starEach [b] X.env = [(false, eval b X.env)] := by rfl) (hs3 : starEach [a, b] X.env = (false, eval a X.env) :: starEach [b] X.env := by rfl) (hs4 : starEach [b] X.env = (false, eval b X.env) :: starEach [] X.env := by rfl) :
    LI X env tg (.Call (.Name "range" p) [a, b] [] pos) (it eI) (fun q : P1 × P2 => e2 q.1 q.2) (fun k => f1 fun x p1 => f2 p1 fun y p2 => ck (rgOk x y) (k (rangeL x y) (p1, p2))) :=
  fun C F H σs es σ k ω R hK hl hr hk q => tI.of X (pi_range2 hg hm (pa_cons (peC X) (pa_cons (peC X) pa_nil hs4) hs3) hs hs2) (op2_run (lo_of h1) (fun p1 => lo_of (h2 p1)) (fun _ _ => trivial) (fun _ _ => trivial) hK hl hr hk
    fun x p1 y p2 v u F' H' fp fq hk' h' r1 r2 => by
      obtain ⟨hc, hk'⟩ := ck_some hk'
      obtain ⟨_, r1⟩ := r1
      obtain ⟨_, r2⟩ := r2
      cases r1; cases r2
      exact ⟨x, y, rfl, of_decide_eq_true (p := -(2 ^ 62) ≤ x ∧ x < 2 ^ 62 ∧ -(2 ^ 62) ≤ y ∧ y < 2 ^ 62) hc, q (rangeL x y) (p1, p2) _ F' H' [] [] hk' h' yields_range⟩)
theorem li_range1 {f1 : (Int → P1 → Option Ω) → Option Ω} {p : Pos} (hg : Gl X "range") (hm : X.mg "range" = none) (h1 : LX X env a (it eI) e1 f1)
    (hs : starEach [a] X.env = [(false, eval a X.env)] := by rfl) (hs4 : starEach [a] X.env = (false, eval a X.env) :: starEach [] X.env := by rfl) :
    LI X env tg (.Call (.Name "range" p) [a] [] pos) (it eI) e1 (fun k => f1 fun y p1 => ck (rgOk 0 y) (k (rangeL 0 y) p1)) :=
  fun C F H σs es σ k ω R hK hl hr hk q => tI.of X (pi_range1 hg hm (pa_cons (peC X) pa_nil hs4) hs) (lo_run (lo_of h1) (fun _ => trivial) hK hl hr hk
    fun y p1 v F' H' fp hk' h' r1 => by
      obtain ⟨hc, hk'⟩ := ck_some hk'
      obtain ⟨_, r1⟩ := r1
      cases r1
      have hc' := of_decide_eq_true (p := -(2 ^ 62) ≤ (0 : Int) ∧ (0 : Int) < 2 ^ 62 ∧ -(2 ^ 62) ≤ y ∧ y < 2 ^ 62) hc
      have e0 : (y - 0).toNat = y.toNat := by omega
      refine ⟨y, rfl, hc'.2.2.1, hc'.2.2.2, ?_⟩
      rw [← e0]
      exact q (rangeL 0 y) p1 _ F' H' [] [] hk' h' yields_range)
end

/-! ### statements -/
/-- a loop over items: go on, or out -/
def forO {α S Ω : Type} : List α → S → (α → S → (S → Option Ω) → Option Ω) → (S → Option Ω) → Option Ω
  | [], s, _, k => k s
  | x :: xs, s, b, k => b x s fun s' => forO xs s' b k
/-- a loop with fuel -/
def whileO {S Ω : Type} : Nat → S → (S → (S → Option Ω) → Option Ω) → Option Ω
  | 0, _, _ => none
  | n + 1, s, b => b s fun s' => whileO n s' b
section
variable {X : Cx} {R I Ω : Type} {SR : Stor R} {envR : I → Env} {kr : R → I → Option Ω} {bk ct : Lp Ω} {env : Env} {nm : Str} {pos : Pos} {c e tg iter : Expr} {sts sa sb rest : List Stmt} {P A : Type} {τ α : Type} {S : Stor τ} {Sa : Stor α} {e' : P → Env} {ix : List Nat} {J J1 : Type} {envJ : J → Env} {env1 : J1 → Env}
theorem lb_end (j : J) (hs : Sub env (envJ j)) : LB X SR envR kr bk ct env [] envJ (fun kn => kn j) :=
  fun C F H σs es σ kn ω D hK hl h hk qn qb qc qr => tSs.of X pss_nil (qn j F H σ hk (h.subF hs))
theorem lb_sub {env0 : Env} {f : (J → Option Ω) → Option Ω} (hs : Sub env env0) (h : LB X SR envR kr bk ct env0 sts envJ f) : LB X SR envR kr bk ct env sts envJ f :=
  fun C F H σs es σ kn ω D hK hl hr hk qn qb qc qr => h C F H σs es σ kn ω D hK hl (hr.subF hs) hk qn qb qc qr
/-- a slot is shared from here on -/
theorem lb_frz {E : Enc τ} {x : τ} {f : (J → Option Ω) → Option Ω} (i : Nat) (fz : Frz S E) (he : env[i]? = some (.st none τ S x)) (h : LB X SR envR kr bk ct (env.set i (.st none τ (it E) x)) sts envJ f) : LB X SR envR kr bk ct env sts envJ f :=
  fun C F H σs es σ kn ω D hK hl hr hk qn qb qc qr => by
    obtain ⟨F', sF, h'⟩ := hr.freeze (i := es.length + i) fz (by rw [at_app _ rfl]; exact he)
    rw [List.set_append_right _ _ (Nat.le_add_right _ _), Nat.add_sub_cancel_left] at h'
    exact h C F' H σs es σ kn ω D hK hl h' hk qn qb qc qr
theorem lb_asg {f : (τ → P → Option Ω) → Option Ω} {fr : τ → P → (J → Option Ω) → Option Ω} {envT : P → τ → Env} (he : LX X env e S e' f) (hg : ∀ p, LG X ix (e' p) tg S (envT p)) (hr : ∀ x p, LB X SR envR kr bk ct (envT p x) rest envJ (fr x p))
    (hs : swapsWithSole [tg] e pos.line X.env = pure false := by rfl) (hw : swappedStores [tg] e X.env = pure none := by rfl) (h1 : (assignEach [tg] X.env).map (·.2) = [assign tg X.env] := by rfl) :
    LB X SR envR kr bk ct env (.Assign [tg] e pos :: rest) envJ (fun kn => f fun x p => fr x p kn) :=
  fun C F H σs es σ kn ω D hK hl h hk qn qb qc qr => tSs.of X (pss_cons (ps_asg (peC X) (pgC X) hs hw h1) (pssC X)) (he C F H σs es σ _ ω _ hK hl h hk fun x p v F' H' hk' h' =>
    hg p C F' H' σs es σ v x _ hK hl h' fun σ' _ h2 => hr x p C F' H' σs es σ' kn ω D hK hl h2 hk' qn qb qc qr)
theorem lb_set {f : (τ → P → Option Ω) → Option Ω} {fr : τ → P → (J → Option Ω) → Option Ω} {pos' : Pos} (i : Nat) (hN : X.N.Nodup) (he : LX X env e S e' f) (hr : ∀ x p, LB X SR envR kr bk ct ((e' p).set i (.st none τ S x)) rest envJ (fr x p))
    (hi : X.N[i]? = some nm := by rfl) (hx : Loc X.env.scope nm := by first | exact Or.inl rfl | exact Or.inr rfl) (hlt : ∀ p, i < (e' p).length := by exact (fun _ => Nat.lt_of_sub_eq_succ rfl)) (hf : X.fn nm = true ∨ X.env.scope.names.lookup nm = some .local := by first | exact .inl rfl | exact .inr rfl) (hs : swapsWith e (some (.Name nm pos')) pos.line X.env = pure false := by rfl) :
    LB X SR envR kr bk ct env (.Assign [.Name nm pos'] e pos :: rest) envJ (fun kn => f fun x p => fr x p kn) :=
  fun C F H σs es σ kn ω D hK hl h hk qn qb qc qr => tSs.of X (pss_cons (ps_set hN hi hx (peC X) hs hf) (pssC X)) (he C F H σs es σ _ ω _ hK hl h hk fun x p v F' H' hk' h' =>
    hr x p C F' H' σs es (σ.set i (some v)) kn ω D hK hl (h'.asg hl (hlt p)) hk' qn qb qc qr)
theorem lb_if {f : (Bool → P → Option Ω) → Option Ω} {fa fb : P → (J1 → Option Ω) → Option Ω} {fr : J1 → (J → Option Ω) → Option Ω} (hc : LT X env c e' f) (ha : ∀ p, LB X SR envR kr bk ct (e' p) sa env1 (fa p)) (hb : ∀ p, LB X SR envR kr bk ct (e' p) sb env1 (fb p)) (hr : ∀ j, LB X SR envR kr bk ct (env1 j) rest envJ (fr j)) :
    LB X SR envR kr bk ct env (.If c sa sb pos :: rest) envJ (fun kn => f fun b p => if b = true then fa p fun j => fr j kn else fb p fun j => fr j kn) :=
  fun C F H σs es σ kn ω D hK hl h hk qn qb qc qr => tSs.of X (pss_cons (ps_if (ptC X) (pssC X) (pssC X)) (pssC X)) (hc C F H σs es σ _ ω _ hK hl h hk fun b p F' H' hk' h' => by
    cases b with
    | true =>
      rw [if_pos rfl] at hk'
      show if true = true then _ else _
      rw [if_pos rfl]
      exact ha p C F' H' σs es σ _ ω _ hK hl h' hk' (fun j F2 H2 σ2 hk2 h2 => hr j C F2 H2 σs es σ2 kn ω D hK hl h2 hk2 qn qb qc qr) qb qc qr
    | false =>
      rw [if_neg Bool.false_ne_true] at hk'
      show if false = true then _ else _
      rw [if_neg Bool.false_ne_true]
      exact hb p C F' H' σs es σ _ ω _ hK hl h' hk' (fun j F2 H2 σ2 hk2 h2 => hr j C F2 H2 σs es σ2 kn ω D hK hl h2 hk2 qn qb qc qr) qb qc qr)
/-- an if whose body never goes on -/
theorem lb_ifr {f : (Bool → P → Option Ω) → Option Ω} {fa : P → (Empty → Option Ω) → Option Ω} {fr : P → (J → Option Ω) → Option Ω} (hc : LT X env c e' f) (ha : ∀ p, LB X SR envR kr bk ct (e' p) sa (fun z : Empty => z.elim) (fa p)) (hr : ∀ p, LB X SR envR kr bk ct (e' p) rest envJ (fr p)) :
    LB X SR envR kr bk ct env (.If c sa [] pos :: rest) envJ (fun kn => f fun b p => if b = true then fa p (fun z => z.elim) else fr p kn) :=
  fun C F H σs es σ kn ω D hK hl h hk qn qb qc qr => tSs.of X (pss_cons (ps_if (ptC X) (pssC X) pss_nil) (pssC X)) (hc C F H σs es σ _ ω _ hK hl h hk fun b p F' H' hk' h' => by
    cases b with
    | true =>
      rw [if_pos rfl] at hk'
      show if true = true then _ else _
      rw [if_pos rfl]
      exact ha p C F' H' σs es σ _ ω _ hK hl h' hk' (fun z => z.elim) qb qc qr
    | false =>
      rw [if_neg Bool.false_ne_true] at hk'
      show if false = true then _ else _
      rw [if_neg Bool.false_ne_true]
      exact hr p C F' H' σs es σ kn ω D hK hl h' hk' qn qb qc qr)
theorem lb_ret {f : (R → P → Option Ω) → Option Ω} (he : LX X env e SR e' f) (g : P → I) (hs : ∀ p, Sub (e' p) (envR (g p))) : LB X SR envR kr bk ct env (.Return (some e) pos :: rest) envJ (fun _ => f fun x p => kr x (g p)) :=
  fun C F H σs es σ kn ω D hK hl h hk qn qb qc qr => tSs.of X (pss_cons (ps_ret (peC X)) (pssC X)) (he C F H σs es σ _ ω _ hK hl h hk fun x p v F' H' hk' h' =>
    qr x (g p) v F' H' σ hk' (ER.sub h' (.keep ((hs p).pre es))))
theorem lb_brk (j : bk.J) (hs : Sub env (bk.env j)) : LB X SR envR kr bk ct env (.Break pos :: rest) envJ (fun _ => bk.k j) :=
  fun C F H σs es σ kn ω D hK hl h hk qn qb qc qr => tSs.of X (pss_cons ps_break (pssC X)) (qb j F H σ hk (h.subF hs))
theorem lb_cont (j : ct.J) (hs : Sub env (ct.env j)) : LB X SR envR kr bk ct env (.Continue pos :: rest) envJ (fun _ => ct.k j) :=
  fun C F H σs es σ kn ω D hK hl h hk qn qb qc qr => tSs.of X (pss_cons ps_continue (pssC X)) (qc j F H σ hk (h.subF hs))
theorem lb_pass {f : (J → Option Ω) → Option Ω} (hr : LB X SR envR kr bk ct env rest envJ f) : LB X SR envR kr bk ct env (.Pass pos :: rest) envJ f :=
  fun C F H σs es σ kn ω D hK hl h hk qn qb qc qr => tSs.of X (pss_cons ps_pass (pssC X)) (hr C F H σs es σ kn ω D hK hl h hk qn qb qc qr)
/-- an expression for what it does -/
theorem lb_expr {f : (τ → P → Option Ω) → Option Ω} {fr : P → (J → Option Ω) → Option Ω} (he : LX X env e S e' f) (hr : ∀ p, LB X SR envR kr bk ct (e' p) rest envJ (fr p)) (hs : swapsWith e none pos.line X.env = pure false := by rfl) :
    LB X SR envR kr bk ct env (.Expr e pos :: rest) envJ (fun kn => f fun _ p => fr p kn) :=
  fun C F H σs es σ kn ω D hK hl h hk qn qb qc qr => tSs.of X (pss_cons (ps_expr (peC X) hs) (pssC X)) (he C F H σs es σ _ ω _ hK hl h hk fun x p v F' H' hk' h' =>
    hr p C F' H' σs es σ kn ω D hK hl h'.pop hk' qn qb qc qr)
/-- a for; T: what it carries -/
theorem lb_for {T : Type} {envT : T → Env} {envX : T → α → Env} {f : (List α → P → Option Ω) → Option Ω} {fb : α → T → (T → Option Ω) → (T → Option Ω) → (T → Option Ω) → Option Ω} {fr : T → (J → Option Ω) → Option Ω}
    (hp : PassesOwn (model X.prog X.w) X.A X.env X.xe) (hc : X.calm = true) (hi : LI X env tg iter Sa e' f) (t0 : P → T) (h0 : ∀ p, Sub (e' p) (envT (t0 p))) (hg : ∀ t, LG X ix (envT t) tg Sa (envX t))
    (hb : ∀ x t kc kb, LB X SR envR kr ⟨T, envT, kb⟩ ⟨T, envT, kc⟩ (envX t x) sts envT (fun kn => fb x t kn kc kb)) (hr : ∀ t, LB X SR envR kr bk ct (envT t) rest envJ (fr t)) (hs : ∀ x, foldedSetIterable iter X.env x = pure x := by intro _; rfl) :
    LB X SR envR kr bk ct env (.For tg iter sts [] pos :: rest) envJ (fun kn => f fun xs p => forO xs (t0 p) (fun x t kc => fb x t kc kc fun t' => fr t' kn) fun t' => fr t' kn) :=
  fun C F H σs es σ kn ω D hK hl h hk qn qb qc qr => tSs.of X (pss_cons (ps_for hp hc (piC X) (pgC X) (pssC X) hs) (pssC X)) (hi C F H σs es σ _ ω _ hK hl h hk fun xs p Jt F' H' σx ex hk' h' hy => by
    have out : ∀ t F2 H2 σ2, fr t kn = some ω → ER C F2 H2 (σx ++ (σs ++ σ2)) (ex ++ (es ++ envT t)) → tSs X rest D σ2 H2 := fun t F2 H2 σ2 hk2 h2 =>
      hr t C F2 H2 σs es σ2 kn ω D hK hl (h2.popN hy.len) hk2 qn qb qc qr
    refine ⟨fun i m σ2 H2 => m = xs.length - i ∧ i ≤ xs.length ∧ ∃ t F2, ER C F2 H2 (σx ++ (σs ++ σ2)) (ex ++ (es ++ envT t)) ∧ forO (xs.drop i) t (fun x t kc => fb x t kc kc fun t' => fr t' kn) (fun t' => fr t' kn) = some ω,
      ⟨xs.length, by simp, Nat.zero_le _, t0 p, F', h'.sub (((h0 p).pre es).pre ex), by simpa using hk'⟩, ?_⟩
    rintro i m σ2 H2 ⟨rfl, hi, t, F2, h2, hk2⟩
    obtain ⟨y1, y2⟩ := hy.go i F2 H2 [] (σs ++ σ2) [] (es ++ envT t) rfl h2
    by_cases hlt : i < xs.length
    · have ex1 : xs[i]? = some xs[i] := List.getElem?_eq_getElem hlt
      obtain ⟨g1, g2⟩ := y1 _ ex1
      have ed : xs.drop i = xs[i] :: xs.drop (i + 1) := List.drop_eq_getElem_cons hlt
      rw [ed] at hk2
      refine .inr ⟨g1, fun σ3 H3 => ∃ t F3, ER C F3 H3 (σx ++ (σs ++ σ3)) (ex ++ (es ++ envT t)) ∧ forO (xs.drop (i + 1)) t (fun x t kc => fb x t kc kc fun t' => fr t' kn) (fun t' => fr t' kn) = some ω,
        fun σ3 H3 ⟨t3, F3, h3, hk3⟩ => ⟨xs.length - (i + 1), by omega, rfl, hlt, t3, F3, h3, hk3⟩, fun v H3 hv => ?_⟩
      obtain ⟨F3, h3⟩ := g2 v H3 hv
      refine hg t C F3 H3 (σx ++ σs) (ex ++ es) σ2 v xs[i] _ hK (by simp [hl, hy.len]) (by simpa [List.append_assoc] using h3) fun σ4 _ h4 => ?_
      refine hb xs[i] t (fun s' => forO (xs.drop (i + 1)) s' (fun x t kc => fb x t kc kc fun t' => fr t' kn) fun t' => fr t' kn) (fun t' => fr t' kn) C F3 H3 (σx ++ σs) (ex ++ es) σ4 _ ω _ hK (by simp [hl, hy.len]) h4 hk2 ?_ ?_ ?_ ?_
      · intro t5 F5 H5 σ5 hk5 h5; exact ⟨t5, F5, by simpa [List.append_assoc] using h5, hk5⟩
      · intro t5 F5 H5 σ5 hk5 h5; exact out t5 F5 H5 σ5 hk5 (by simpa [List.append_assoc] using h5)
      · intro t5 F5 H5 σ5 hk5 h5; exact ⟨t5, F5, by simpa [List.append_assoc] using h5, hk5⟩
      · intro a5 i5 v5 F5 H5 σ5 hk5 h5
        refine qr a5 i5 v5 F5 H5 σ5 hk5 ?_
        have h6 : ER C F5 H5 (σx ++ (some v5 :: (σs ++ σ5))) (ex ++ (.st none R SR a5 :: (es ++ envR i5))) := by
          have z : ER C F5 H5 ([some v5] ++ (σx ++ (σs ++ σ5))) ([.st none R SR a5] ++ (ex ++ (es ++ envR i5))) := by simpa [List.append_assoc] using h5
          exact ER.unrot z hy.len
        exact h6.popN hy.len
    · have e : i = xs.length := by omega
      subst e
      refine .inl ⟨y2 (by simp), out t F2 H2 σ2 ?_ h2⟩
      simpa [forO] using hk2)
end
end Z

set_option Elab.async false
set_option linter.all false
set_option maxRecDepth 100000
namespace Z
open PySem PySem.Spec PyProof.Rows L2

/-! ### and, or, if-else -/
section
variable (X : Cx) {Ω : Type}
def tW (e : Expr) : TT := fun σ H Q => ∀ whole pins s, Inv X pins σ H s → wpAny (model X.prog X.w) X.A (isTrue e X.env whole) (TP X pins σ Q) X.xe s
theorem pwC {e : Expr} : PW X e (tW X e) := ⟨fun whole pins s σ H Q I h => h whole pins s I⟩
theorem tW.of {e : Expr} {t : TT} {σ : L2.St} {H : Hp} {Q : Bool → Hp → Prop} (h : PW X e t) (q : t σ H Q) : tW X e σ H Q := fun whole pins s I => h.run whole pins s σ H Q I q
def LW (env : Env) (e : Expr) {P : Type} (env' : P → Env) (f : (Bool → P → Option Ω) → Option Ω) : Prop :=
  ∀ (C : Ck) (F H : Hp) (σs : List (Option V)) (es : Env) (σ : List (Option V)) (k : Bool → P → Option Ω) (ω : Ω) (Q : Bool → Hp → Prop), C.K = X.K → σs.length = es.length → ER C F H (σs ++ σ) (es ++ env) → f k = some ω →
    (∀ a p F' H', k a p = some ω → ER C F' H' (σs ++ σ) (es ++ env' p) → Q a H') → tW X e σ H Q
end
section
variable {X : Cx} {Ω : Type} {env : Env} {nm : Str} {pos : Pos} {a b c e : Expr} {xs rest : List Expr} {P P1 P2 P3 A : Type} {τ τ1 τ2 α β : Type} {S : Stor τ} {S1 : Stor τ1} {S2 : Stor τ2} {E : Enc τ} {E1 : Enc τ1} {E2 : Enc τ2}
  {G : Env → Prop} {e' : P → Env} {e1 : P1 → Env} {e2 : P1 → P2 → Env} {e3 : P1 → P3 → Env}
theorem lt_w {f : (Bool → P → Option Ω) → Option Ω} (h : LW X env e e' f) : LT X env e e' f :=
  fun C F H σs es σ k ω Q hK hl hr hk q => tT.of X (pwC X).pt (h C F H σs es σ k ω Q hK hl hr hk q)
theorem lw_and1 {f : (Bool → P → Option Ω) → Option Ω} (h : LT X env a e' f) : LW X env (.BoolOp .And [a] pos) e' f :=
  fun C F H σs es σ k ω Q hK hl hr hk q => tW.of X (pw_and1 (ptC X)) (h C F H σs es σ k ω Q hK hl hr hk q)
theorem lw_or1 {f : (Bool → P → Option Ω) → Option Ω} (h : LT X env a e' f) : LW X env (.BoolOp .Or [a] pos) e' f :=
  fun C F H σs es σ k ω Q hK hl hr hk q => tW.of X (pw_or1 (ptC X)) (h C F H σs es σ k ω Q hK hl hr hk q)
theorem lw_and {fa : (Bool → P1 → Option Ω) → Option Ω} {fb : P1 → (Bool → P2 → Option Ω) → Option Ω} (ha : LT X env a e1 fa) (hb : ∀ p1, LW X (e1 p1) (.BoolOp .And (b :: rest) pos) (e2 p1) (fb p1)) (hs : ∀ p1 p2, Sub (e2 p1 p2) (e1 p1)) :
    LW X env (.BoolOp .And (a :: b :: rest) pos) e1 (fun k => fa fun x p1 => if x = true then fb p1 fun y _ => k y p1 else k false p1) :=
  fun C F H σs es σ k ω Q hK hl hr hk q => tW.of X (pw_and (ptC X) (pwC X)) (ha C F H σs es σ _ ω _ hK hl hr hk fun x p1 F' H' hk' h' => by
    cases x with
    | true => rw [if_pos rfl] at hk' ⊢; exact hb p1 C F' H' σs es σ _ ω Q hK hl h' hk' fun y p2 F2 H2 hk2 h2 => q y p1 F2 H2 hk2 (h2.subF (hs p1 p2))
    | false => rw [if_neg Bool.false_ne_true] at hk' ⊢; exact q false p1 F' H' hk' h')
theorem lw_or {fa : (Bool → P1 → Option Ω) → Option Ω} {fb : P1 → (Bool → P2 → Option Ω) → Option Ω} (ha : LT X env a e1 fa) (hb : ∀ p1, LW X (e1 p1) (.BoolOp .Or (b :: rest) pos) (e2 p1) (fb p1)) (hs : ∀ p1 p2, Sub (e2 p1 p2) (e1 p1)) :
    LW X env (.BoolOp .Or (a :: b :: rest) pos) e1 (fun k => fa fun x p1 => if x = true then k true p1 else fb p1 fun y _ => k y p1) :=
  fun C F H σs es σ k ω Q hK hl hr hk q => tW.of X (pw_or (ptC X) (pwC X)) (ha C F H σs es σ _ ω _ hK hl hr hk fun x p1 F' H' hk' h' => by
    cases x with
    | true => rw [if_pos rfl] at hk' ⊢; exact q true p1 F' H' hk' h'
    | false => rw [if_neg Bool.false_ne_true] at hk' ⊢; exact hb p1 C F' H' σs es σ _ ω Q hK hl h' hk' fun y p2 F2 H2 hk2 h2 => q y p1 F2 H2 hk2 (h2.subF (hs p1 p2)))
/-- as values -/
theorem lx_one {op : BoolOp} {f : (Bool → P → Option Ω) → Option Ω} (h : LX X env a (it eB) e' f) : LX X env (.BoolOp op [a] pos) (it eB) e' f :=
  fun C F H σs es σ k ω Q hK hl hr hk q => tE.of X (pe_one (peC X)) (h C F H σs es σ k ω Q hK hl hr hk q)
theorem ER.topB {C : Ck} {F H : Hp} {v : V} {x : Bool} {σ : List (Option V)} {env : Env} (h : ER C F H (some v :: σ) (.st none Bool (it eB) x :: env)) : v = .bl x := by
  obtain ⟨v', fp, e1, r⟩ := h.look (i := 0) rfl
  simp at e1; subst e1
  obtain ⟨_, r⟩ := r
  cases r; rfl
theorem lx_and {fa : (Bool → P1 → Option Ω) → Option Ω} {fb : P1 → (Bool → P2 → Option Ω) → Option Ω} (ha : LX X env a (it eB) e1 fa) (hb : ∀ p1, LX X (e1 p1) (.BoolOp .And (b :: rest) pos) (it eB) (e2 p1) (fb p1)) (hs : ∀ p1 p2, Sub (e2 p1 p2) (e1 p1)) :
    LX X env (.BoolOp .And (a :: b :: rest) pos) (it eB) e1 (fun k => fa fun x p1 => if x = true then fb p1 fun y _ => k y p1 else k false p1) :=
  fun C F H σs es σ k ω Q hK hl hr hk q => tE.of X (pe_and (peC X) (peC X)) (ha C F H σs es σ _ ω _ hK hl hr hk fun x p1 v F' H' hk' h' => by
    refine ⟨x, h'.topB, ?_⟩
    cases x with
    | true => rw [if_pos rfl] at hk' ⊢; exact hb p1 C F' H' σs es σ _ ω Q hK hl h'.pop hk' fun y p2 u F2 H2 hk2 h2 => q y p1 u F2 H2 hk2 (ER.sub h2 (.keep ((hs p1 p2).pre es)))
    | false => rw [if_neg Bool.false_ne_true] at hk' ⊢; exact q false p1 _ F' H' hk' (h'.pop.pushSh (.bl _)))
theorem lx_or {fa : (Bool → P1 → Option Ω) → Option Ω} {fb : P1 → (Bool → P2 → Option Ω) → Option Ω} (ha : LX X env a (it eB) e1 fa) (hb : ∀ p1, LX X (e1 p1) (.BoolOp .Or (b :: rest) pos) (it eB) (e2 p1) (fb p1)) (hs : ∀ p1 p2, Sub (e2 p1 p2) (e1 p1)) :
    LX X env (.BoolOp .Or (a :: b :: rest) pos) (it eB) e1 (fun k => fa fun x p1 => if x = true then k true p1 else fb p1 fun y _ => k y p1) :=
  fun C F H σs es σ k ω Q hK hl hr hk q => tE.of X (pe_or (peC X) (peC X)) (ha C F H σs es σ _ ω _ hK hl hr hk fun x p1 v F' H' hk' h' => by
    refine ⟨x, h'.topB, ?_⟩
    cases x with
    | true => rw [if_pos rfl] at hk' ⊢; exact q true p1 _ F' H' hk' (h'.pop.pushSh (.bl _))
    | false => rw [if_neg Bool.false_ne_true] at hk' ⊢; exact hb p1 C F' H' σs es σ _ ω Q hK hl h'.pop hk' fun y p2 u F2 H2 hk2 h2 => q y p1 u F2 H2 hk2 (ER.sub h2 (.keep ((hs p1 p2).pre es))))
theorem lx_not {f : (Bool → P → Option Ω) → Option Ω} (h : LX X env a (it eB) e' f) : LX X env (.UnaryOp .Not a pos) (it eB) e' (fun k => f fun x p => k (!x) p) :=
  fun C F H σs es σ k ω Q hK hl hr hk q => tE.of X (pe_not (peC X)) (h C F H σs es σ _ ω _ hK hl hr hk fun x p v F' H' hk' h' => ⟨x, h'.topB, q _ p _ F' H' hk' (h'.pop.pushSh (.bl _))⟩)
theorem lx_if {fc : (Bool → P1 → Option Ω) → Option Ω} {fa : P1 → (τ → P2 → Option Ω) → Option Ω} {fb : P1 → (τ → P3 → Option Ω) → Option Ω} (hc : LT X env c e1 fc) (ha : ∀ p1, LX X (e1 p1) a S (e2 p1) (fa p1)) (hb : ∀ p1, LX X (e1 p1) b S (e3 p1) (fb p1))
    (hs : ∀ p1 p2, Sub (e2 p1 p2) (e1 p1)) (hs3 : ∀ p1 p3, Sub (e3 p1 p3) (e1 p1)) :
    LX X env (.IfExp c a b pos) S e1 (fun k => fc fun x p1 => if x = true then fa p1 fun y _ => k y p1 else fb p1 fun y _ => k y p1) :=
  fun C F H σs es σ k ω Q hK hl hr hk q => tE.of X (pe_ifExp (ptC X) (peC X) (peC X)) (hc C F H σs es σ _ ω _ hK hl hr hk fun x p1 F' H' hk' h' => by
    cases x with
    | true => rw [if_pos rfl] at hk' ⊢; exact ha p1 C F' H' σs es σ _ ω Q hK hl h' hk' fun y p2 u F2 H2 hk2 h2 => q y p1 u F2 H2 hk2 (ER.sub h2 (.keep ((hs p1 p2).pre es)))
    | false => rw [if_neg Bool.false_ne_true] at hk' ⊢; exact hb p1 C F' H' σs es σ _ ω Q hK hl h' hk' fun y p2 u F2 H2 hk2 h2 => q y p1 u F2 H2 hk2 (ER.sub h2 (.keep ((hs3 p1 p2).pre es))))
end

/-! ### while; stores into own lists -/
section
variable {C : Ck} {F F' H H' : Hp} {σ : List (Option V)} {env : Env} {o : Option V} {τ τ0 : Type} {S : Stor τ} {S0 : Stor τ0} {x : τ} {y : τ0} {v : V} {w : Option V} {i : Nat}
/-- the stack's top goes into the objects of slot i -/
theorem ER.absorb (h : ER C F H (o :: σ) (.st none τ0 S0 y :: env)) (e : env[i]? = some (.st w τ S x)) : ∃ v fp v0 fq, σ[i]? = some (some v) ∧ o = some v0 ∧ S.rel C.K F H fp v x ∧ S0.rel C.K F H fq v0 y ∧ (fp ++ fq).Nodup ∧ (∀ a ∈ fp ++ fq, C.B a = none ∧ F a = none ∧ H a ≠ none) ∧
    ∀ (τ' : Type) (S' : Stor τ') (x' : τ') (H' : Hp) (fp' : List Addr), (∀ a, a ∉ fp ++ fq → H a ≠ none → H' a = H a) → (∀ a, H a ≠ none → H' a ≠ none) → S'.rel C.K F H' fp' v x' → fp'.Nodup → (∀ a ∈ fp', H' a ≠ none ∧ (a ∈ fp ++ fq ∨ H a = none)) → ER C F H' σ (env.set i (.st w τ' S' x')) := by
  obtain ⟨fp, q⟩ := h.sl
  obtain ⟨hi, _⟩ := List.getElem?_eq_some_iff.mp e
  obtain ⟨v, e1, r, k⟩ := q.ok (i + 1) _ (by simpa using e)
  obtain ⟨v0, e0, r0, k0⟩ := q.ok 0 _ rfl
  have e1' : σ[i]? = some (some v) := by
    simp at e1
    cases z : σ[i]? with
    | none => rw [z] at e1; cases e1
    | some o => rw [z] at e1; exact congrArg some e1
  have e0' : o = some v0 := by simpa using e0
  have hi1 : i + 1 < (Slot.st none τ0 S0 y :: env).length := by simpa using hi
  have h00 : 0 < (Slot.st none τ0 S0 y :: env).length := by simp
  have ownu : ∀ a ∈ fp (i + 1) ++ fp 0, C.B a = none ∧ F a = none ∧ H a ≠ none := fun a m => by
    rcases List.mem_append.mp m with m | m
    · exact q.own (i + 1) hi1 a m
    · exact q.own 0 h00 a m
  have ndu : (fp (i + 1) ++ fp 0).Nodup := by
    rw [List.nodup_append]
    refine ⟨q.nd (i + 1) hi1, q.nd 0 h00, fun a ha b hb z => ?_⟩
    subst z
    have := q.sep (i + 1) 0 hi1 h00 a ha hb
    omega
  refine ⟨v, fp (i + 1), v0, fp 0, e1', e0', r, r0, ndu, ownu, fun τ' S' x' H' fp' hk hs r' nd' sub => ?_⟩
  have hp := h.pop
  have bne : ∀ a, C.B a ≠ none → a ∉ fp (i + 1) ++ fp 0 := fun a m z => m (ownu a z).1
  have notu : ∀ j, j < env.length → j ≠ i → ∀ a ∈ fp (j + 1), a ∉ fp (i + 1) ++ fp 0 := fun j hj ne a ha z => by
    have hj1 : j + 1 < (Slot.st none τ0 S0 y :: env).length := by simpa using hj
    rcases List.mem_append.mp z with z | z
    · have := q.sep (j + 1) (i + 1) hj1 hi1 a ha z; omega
    · have := q.sep (j + 1) 0 hj1 h00 a ha z; omega
  refine ⟨fun a o m => ?_, fun a o m => ?_, h.gr, fun a m => hs a (h.up a m), by simp [hp.len], fun j => if j = i then fp' else fp (j + 1), fun j s' ej => ?_, fun j hj a ha => ?_, fun j l hj hl a ha hb => ?_, fun j hj => ?_⟩
  · have m' : C.B a ≠ none := by rw [m]; exact fun z => by cases z
    rw [hk a (bne a m') (same_some h.sB m')]; exact h.sB a o m
  · have m' : F a ≠ none := by rw [m]; exact fun z => by cases z
    rw [hk a (fun z => m' (ownu a z).2.1) (same_some h.sF m')]; exact h.sF a o m
  · by_cases z : j = i
    · subst z
      rw [List.getElem?_set_self hi] at ej
      cases ej
      refine ⟨v, by rw [e1']; rfl, ?_, ?_⟩
      · simpa using r'
      · simp only [if_pos]
        cases w with
        | none =>
          intro a ha
          rcases (sub a ha).2 with m | m
          · rcases List.mem_append.mp m with m | m
            · exact k a m
            · exact k0 a m
          · exact h.hnone m
        | some w0 =>
          refine ⟨k.1, fun a ha => ?_⟩
          rcases (sub a ha).2 with m | m
          · rcases List.mem_append.mp m with m | m
            · exact k.2 a m
            · exact .inl (k0 a m)
          · exact .inl (h.hnone m)
    · rw [List.getElem?_set_ne (fun y => z y.symm)] at ej
      have hj : j < env.length := (List.getElem?_eq_some_iff.mp ej).1
      simp only [if_neg z]
      have := q.ok (j + 1) s' (by simpa using ej)
      simp only [List.getElem?_cons_succ] at this
      refine this.go (fun _ _ y => y) (fun a m => hk a (bne a m) (same_some h.sB m)) fun a ha => ?_
      exact hk a (notu j hj z a ha) (q.own (j + 1) (by simpa using hj) a ha).2.2
  · have hj' : j < env.length := by simpa using hj
    by_cases z : j = i
    · subst z
      simp only [if_pos] at ha
      obtain ⟨m1, m⟩ := sub a ha
      rcases m with m | m
      · exact ⟨(ownu a m).1, (ownu a m).2.1, m1⟩
      · exact ⟨h.bnone m, h.fnone m, m1⟩
    · simp only [if_neg z] at ha
      obtain ⟨b, f, c⟩ := q.own (j + 1) (by simpa using hj') a ha
      exact ⟨b, f, hs a c⟩
  · have hj' : j < env.length := by simpa using hj
    have hl' : l < env.length := by simpa using hl
    by_cases zj : j = i
    · by_cases zl : l = i
      · rw [zj, zl]
      · simp only [if_pos zj] at ha
        simp only [if_neg zl] at hb
        rcases (sub a ha).2 with m | m
        · exact absurd m (notu l hl' zl a hb)
        · exact absurd m (q.own (l + 1) (by simpa using hl') a hb).2.2
    · simp only [if_neg zj] at ha
      by_cases zl : l = i
      · simp only [if_pos zl] at hb
        rcases (sub a hb).2 with m | m
        · exact absurd m (notu j hj' zj a ha)
        · exact absurd m (q.own (j + 1) (by simpa using hj') a ha).2.2
      · simp only [if_neg zl] at hb
        have := q.sep (j + 1) (l + 1) (by simpa using hj') (by simpa using hl') a ha hb
        omega
  · have hj' : j < env.length := by simpa using hj
    by_cases z : j = i
    · simp only [if_pos z]; exact nd'
    · simp only [if_neg z]; exact q.nd (j + 1) (by simpa using hj')
theorem RelAll.app {α : Type} {R : List Addr → V → α → Prop} : ∀ {fp : List Addr} {vs : List V} {xs : List α} {fq : List Addr} {v : V} {x : α}, RelAll R fp vs xs → R fq v x → RelAll R (fp ++ fq) (vs ++ [v]) (xs ++ [x])
  | _, _, _, fq, v, x, .nil, h => by simpa using RelAll.cons h .nil
  | _, _, _, fq, v, x, .cons h r, q => by
    rw [List.append_assoc]
    exact .cons h (r.app q)
theorem RelAll.length {α : Type} {R : List Addr → V → α → Prop} : ∀ {fp : List Addr} {vs : List V} {xs : List α}, RelAll R fp vs xs → vs.length = xs.length
  | _, _, _, .nil => rfl
  | _, _, _, .cons _ r => congrArg (· + 1) r.length
end
def SZ : Nat := 16777216
theorem SZ_eq : sizeLine = SZ := sizeLine_eq
section
variable {X : Cx} {R I Ω : Type} {SR : Stor R} {envR : I → Env} {kr : R → I → Option Ω} {bk ct : Lp Ω} {env : Env} {nm : Str} {pos : Pos} {c e tg iter : Expr} {sts sa sb rest : List Stmt} {P P1 P2 A : Type} {τ α : Type} {S : Stor τ} {Sa : Stor α} {e' : P → Env} {ix : List Nat} {J J1 : Type} {envJ : J → Env} {env1 : J1 → Env}
/-- a while, with fuel n -/
theorem lb_while {T Pt : Type} {envT : T → Env} {eT : T → Pt → Env} {fc : T → (Bool → Pt → Option Ω) → Option Ω} {fb : T → Pt → (T → Option Ω) → (T → Option Ω) → (T → Option Ω) → Option Ω} {fr : T → (J → Option Ω) → Option Ω} (n : Nat)
    (hp : PassesOwn (model X.prog X.w) X.A X.env X.xe) (t0 : T) (h0 : Sub env (envT t0)) (hc : ∀ t, LT X (envT t) c (eT t) (fc t)) (hx : ∀ t p, Sub (eT t p) (envT t))
    (hb : ∀ t p kc kb, LB X SR envR kr ⟨T, envT, kb⟩ ⟨T, envT, kc⟩ (eT t p) sts envT (fun kn => fb t p kn kc kb)) (hr : ∀ t, LB X SR envR kr bk ct (envT t) rest envJ (fr t)) :
    LB X SR envR kr bk ct env (.While c sts [] pos :: rest) envJ (fun kn => whileO n t0 fun t kc => fc t fun b p => if b = true then fb t p kc kc fun t' => fr t' kn else fr t kn) :=
  fun C F H σs es σ kn ω D hK hl h hk qn qb qc qr => tSs.of X (pss_cons (ps_while hp (ptC X) (pssC X)) (pssC X)) (by
    have out : ∀ t F2 H2 σ2, fr t kn = some ω → ER C F2 H2 (σs ++ σ2) (es ++ envT t) → tSs X rest D σ2 H2 := fun t F2 H2 σ2 hk2 h2 =>
      hr t C F2 H2 σs es σ2 kn ω D hK hl h2 hk2 qn qb qc qr
    refine ⟨fun m σ2 H2 => ∃ t F2, ER C F2 H2 (σs ++ σ2) (es ++ envT t) ∧ whileO m t (fun t kc => fc t fun b p => if b = true then fb t p kc kc fun t' => fr t' kn else fr t kn) = some ω, ⟨n, t0, F, h.subF h0, hk⟩, ?_⟩
    rintro m σ2 H2 ⟨t, F2, h2, hk2⟩
    cases m with
    | zero => cases hk2
    | succ m =>
      refine hc t C F2 H2 σs es σ2 _ ω _ hK hl h2 hk2 fun b p F3 H3 hk3 h3 => ?_
      cases b with
      | true =>
        rw [if_pos rfl] at hk3 ⊢
        refine ⟨fun σ4 H4 => ∃ t F4, ER C F4 H4 (σs ++ σ4) (es ++ envT t) ∧ whileO m t (fun t kc => fc t fun b p => if b = true then fb t p kc kc fun t' => fr t' kn else fr t kn) = some ω, fun σ4 H4 ⟨t4, F4, h4, hk4⟩ => ⟨m, Nat.lt_succ_self m, t4, F4, h4, hk4⟩, ?_⟩
        refine hb t p (fun s' => whileO m s' fun t kc => fc t fun b p => if b = true then fb t p kc kc fun t' => fr t' kn else fr t kn) (fun t' => fr t' kn) C F3 H3 σs es σ2 _ ω _ hK hl h3 hk3 ?_ ?_ ?_ ?_
        · intro t5 F5 H5 σ5 hk5 h5; exact ⟨t5, F5, h5, hk5⟩
        · intro t5 F5 H5 σ5 hk5 h5; exact out t5 F5 H5 σ5 hk5 h5
        · intro t5 F5 H5 σ5 hk5 h5; exact ⟨t5, F5, h5, hk5⟩
        · intro a5 i5 v5 F5 H5 σ5 hk5 h5; exact qr a5 i5 v5 F5 H5 σ5 hk5 h5
      | false =>
        rw [if_neg Bool.false_ne_true] at hk3 ⊢
        exact out t F3 H3 σ2 hk3 (h3.subF (hx t p)))
/-- x.append(e), x a list of one's own -/
theorem lb_app {f : (α → P → Option Ω) → Option Ω} {fr : α → P → (J → Option Ω) → Option Ω} {w : Option V} {x0 : List α} {xs : P → List α} {ap cp np : Pos} (i : Nat) (h0 : env[i]? = some (.st w (List α) (ls Sa) x0))
    (he : LX X env e Sa e' f) (h1 : ∀ p, (e' p)[i]? = some (.st w (List α) (ls Sa) (xs p))) (hr : ∀ y p, LB X SR envR kr bk ct ((e' p).set i (.st w (List α) (ls Sa) (xs p ++ [y]))) rest envJ (fr y p))
    (hN : X.N[i]? = some nm := by rfl) (hv : Vis X.env.scope nm := by first | exact Or.inl rfl | exact Or.inr (Or.inl rfl) | exact Or.inr (Or.inr rfl))
    (hd : (nm == ("__debug__" : Str)) = false := by decide) (hcd : (nm == ("__classdict__" : Str)) = false := by decide)
    (hbase : attributeBase (.Name nm np) "append" X.env (eval (.Name nm np) X.env) = eval (.Name nm np) X.env := by rfl)
    (hfew : ((backTo cp (starEach [e] X.env)).all (fun x => !x.1) && (backToKw cp (keywordEach [] X.env)).all (fun x => x.1.isSome) && decide ([e].length + ([] : List Keyword).length + (if ([] : List Keyword).isEmpty then 0 else 1) < 30)) = true := by rfl)
    (hline : (ap.endLine == cp.line) = true := by rfl) (hse : starEach [e] X.env = (false, eval e X.env) :: starEach [] X.env := by rfl) (hplain : (backTo cp (starEach [] X.env)).any (·.1) = false := by rfl)
    (hsw : swapsWith (.Call (.Attribute (.Name nm np) "append" ap) [e] [] cp) none pos.line X.env = pure false := by rfl) :
    LB X SR envR kr bk ct env (.Expr (.Call (.Attribute (.Name nm np) "append" ap) [e] [] cp) pos :: rest) envJ (fun kn => f fun y p => ck (decide ((xs p).length < SZ)) (fr y p kn)) :=
  fun C F H σs es σ kn ω D hK hl h hk qn qb qc qr => tSs.of X (pss_cons (ps_expr (pe_bm PySem.F.plainAttrs_list PySem.F.slot_list_append PySem.F.type_list_append mt_append (pe_var hN hv hd hcd) (pa_cons (peC X) pa_nil hse) hbase hfew hline hse hplain) hsw) (pssC X)) (by
    obtain ⟨l, fp, e1, r⟩ := h.lookF hl h0
    obtain ⟨q0, vs0, fps0, rfl, hq0, _, _⟩ := r
    refine ⟨_, e1, .inl ⟨rfl, vs0, SqL.of hq0⟩, he C F H σs es σ _ ω _ hK hl h hk fun y p v F' H' hk' h' => ?_⟩
    obtain ⟨hc, hk'⟩ := ck_some hk'
    obtain ⟨v', fp', v0, fq, e2, e3, r1, r2, nd, ow, fin⟩ := h'.absorb (i := es.length + i) (by rw [at_app _ rfl]; exact h1 p)
    rw [at_app _ hl, e1] at e2
    cases e2; cases e3
    obtain ⟨q1, vs, fps, e4, hq, ra, rfl⟩ := r1
    cases e4
    have hlen := ra.length
    have hc' := of_decide_eq_true hc
    refine ⟨_, vs, _, rfl, rfl, hq, by rw [SZ_eq]; omega, ?_⟩
    have fin' := fin (List α) (ls Sa) (xs p ++ [y]) (upd H' q0 (.lst (vs ++ [v]))) (q0 :: (fps ++ fq)) (fun a na _ => upd_ne fun z => na (by rw [z]; simp)) (fun a m => ?_) ?_ (by simpa using nd) (fun a m => ?_)
    · rw [List.set_append_right _ _ (Nat.le_add_right _ _), Nat.add_sub_cancel_left] at fin'
      exact hr y p C F' _ σs es σ kn ω D hK hl fin' hk' qn qb qc qr
    · by_cases z : a = q0
      · subst z; rw [upd_same]; exact fun z => by cases z
      · rw [upd_ne z]; exact m
    · have nm : q0 ∉ fps ++ fq := by
        have : (q0 :: (fps ++ fq)).Nodup := by simpa using nd
        exact (List.nodup_cons.mp this).1
      refine ⟨q0, vs ++ [v], fps ++ fq, rfl, upd_same, RelAll.imp (fun fr' v' x' s q => Sa.frame (fun a m => upd_ne fun z => nm (z ▸ s a m)) q) (ra.app r2), rfl⟩
    · refine ⟨?_, .inl (by simpa using m)⟩
      by_cases z : a = q0
      · subst z; rw [upd_same]; exact fun z => by cases z
      · rw [upd_ne z]; exact (ow a (by simpa using m)).2.2)
/-- x[j] = e, x a list of one's own whose items are shared -/
theorem lb_setix {E : Enc α} {f : (α → P1 → Option Ω) → Option Ω} {f2 : α → P1 → (Int → P2 → Option Ω) → Option Ω} {fr : α → P1 → Int → P2 → List α → (J → Option Ω) → Option Ω} {e1 : P1 → Env} {e2 : α → P1 → P2 → Env} {w : Option V} {x1 : P1 → List α} {xs : α → P1 → P2 → List α} {ie : Expr} {np sp : Pos} (i : Nat)
    (he : LX X env e (it E) e1 f) (h1 : ∀ p, (e1 p)[i]? = some (.st w (List α) (ls (it E)) (x1 p))) (hi : ∀ y p, LX X (e1 p) ie (it eI) (e2 y p) (f2 y p)) (h2 : ∀ y p p2, (e2 y p p2)[i]? = some (.st w (List α) (ls (it E)) (xs y p p2)))
    (hr : ∀ y p j p2 zs, LB X SR envR kr bk ct ((e2 y p p2).set i (.st w (List α) (ls (it E)) zs)) rest envJ (fr y p j p2 zs))
    (hN : X.N[i]? = some nm := by rfl) (hv : Vis X.env.scope nm := by first | exact Or.inl rfl | exact Or.inr (Or.inl rfl) | exact Or.inr (Or.inr rfl))
    (hd : (nm == ("__debug__" : Str)) = false := by decide) (hcd : (nm == ("__classdict__" : Str)) = false := by decide)
    (ha : ∀ v, assign (.Subscript (.Name nm np) ie sp) X.env v = (do
      let ov ← holding [v] (eval (.Name nm np) X.env)
      let iv ← holding [v, ov] (eval ie X.env)
      standAt sp
      holding [v, ov, iv] (setItem ov iv v)
      release [v, ov, iv] []) := by intro _; rfl)
    (hs : swapsWithSole [.Subscript (.Name nm np) ie sp] e pos.line X.env = pure false := by rfl) (hw : swappedStores [.Subscript (.Name nm np) ie sp] e X.env = pure none := by rfl) (ha1 : (assignEach [.Subscript (.Name nm np) ie sp] X.env).map (·.2) = [assign (.Subscript (.Name nm np) ie sp) X.env] := by rfl) :
    LB X SR envR kr bk ct env (.Assign [.Subscript (.Name nm np) ie sp] e pos :: rest) envJ (fun kn => f fun y p => f2 y p fun j p2 => (ixN (xs y p p2).length j).bind fun n => fr y p j p2 ((xs y p p2).set n y) kn) :=
  fun C F H σs es σ kn ω D hK hl h hk qn qb qc qr => tSs.of X (pss_cons (ps_asg (peC X) (pg_sub (pe_var hN hv hd hcd) (peC X) set_list ha) hs hw ha1) (pssC X)) (he C F H σs es σ _ ω _ hK hl h hk fun y p v F' H' hk' h' => by
    obtain ⟨l, fp, e3, r⟩ := h'.pop.lookF hl (h1 p)
    refine ⟨l, e3, hi y p C F' H' (some v :: σs) (.st none α (it E) y :: es) σ _ ω _ hK (by simp [hl]) h' hk' fun j p2 u F2 H2 hk2 h3 => ?_⟩
    obtain ⟨n, hn, hk2⟩ := bind_some hk2
    have hu : u = .int j := by
      obtain ⟨v', fp, e1, r⟩ := h3.look (i := 0) rfl
      simp at e1; subst e1
      obtain ⟨_, r⟩ := r
      cases r; rfl
    subst hu
    have hv' : Rep C.K F2 v (E.enc y) := by
      obtain ⟨v', fp, e1, r⟩ := h3.look (i := 1) rfl
      simp at e1; subst e1
      exact r.2
    have h4 : ER C F2 H2 (σs ++ σ) (es ++ e2 y p p2) := h3.pop.pop
    obtain ⟨l', fp', e4, r1, nd, ow, fin⟩ := h4.mut (i := es.length + i) (by rw [at_app _ rfl]; exact h2 y p p2)
    rw [at_app _ hl, e3] at e4
    cases e4
    obtain ⟨q1, vs, fps, rfl, hq, ra, rfl⟩ := r1
    obtain ⟨rfl, rp⟩ := ra.zero
    have hlen : vs.length = (xs y p p2).length := by have := rp.length; simpa using this
    refine ⟨q1, vs, j, n, rfl, rfl, hq, by rw [hlen]; exact hn, ?_⟩
    have fin' := fin (List α) (ls (it E)) ((xs y p p2).set n y) (upd H2 q1 (.lst (vs.set n v))) [q1] (fun a na _ => upd_ne fun z => na (by rw [z]; simp)) (fun a m => ?_) ⟨q1, vs.set n v, [], rfl, upd_same, ?_, rfl⟩ (by simp) (fun a m => ?_)
    · rw [List.set_append_right _ _ (Nat.le_add_right _ _), Nat.add_sub_cancel_left] at fin'
      exact hr y p j p2 _ C F2 _ σs es σ kn ω D hK hl fin' hk2 qn qb qc qr
    · by_cases z : a = q1
      · subst z; rw [upd_same]; exact fun z => by cases z
      · rw [upd_ne z]; exact m
    · have := rp.set hv' (i := n)
      rw [← List.map_set] at this
      exact this.zero
    · simp at m; subst m
      exact ⟨by rw [upd_same]; exact (fun z => by cases z), .inl (by simp)⟩)
end
end Z

set_option Elab.async false
set_option linter.all false
set_option maxRecDepth 100000
namespace Z
open PySem PySem.Spec PyProof.Rows L2

/-! ### calls of defs -/
/-- slots that own nothing -/
inductive ShE : Env → Prop
  | nil : ShE []
  | cons {τ : Type} {S : Stor τ} {x : τ} {en : Env} : Cp S → ShE en → ShE (.st none τ S x :: en)
theorem ShE.slot : ∀ {en : Env}, ShE en → ∀ (i : Nat) (s : Slot), en[i]? = some s → ∃ (τ : Type) (S : Stor τ) (x : τ), s = Slot.st none τ S x ∧ Cp S
  | _, .nil, i, s, e => by simp at e
  | _, .cons cp r, 0, s, e => ⟨_, _, _, by simp at e; exact e.symm, cp⟩
  | _, .cons cp r, i + 1, s, e => r.slot i s (by simpa using e)
section
variable {C : Ck} {F F' H H' : Hp} {σ : List (Option V)} {env : Env} {o : Option V} {τ τ0 R : Type} {S : Stor τ} {S0 : Stor τ0} {SR : Stor R} {x : τ} {y : τ0} {v : V} {w : Option V} {i : Nat} {r : R}
theorem lt_of_get {α : Type _} {l : List α} {i : Nat} {a : α} (h : l[i]? = some a) : i < l.length := (List.getElem?_eq_some_iff.mp h).1
/-- into a def: its arguments are shared -/
theorem ER.enter {σa : List (Option V)} {ea : Env} (h : ER C F H (σa ++ σ) (ea ++ env)) (hl : σa.length = ea.length) (sh : ShE ea) : ER ⟨C.K, H, F, H, []⟩ F H σa ea := by
  obtain ⟨fp, q⟩ := h.sl
  refine ⟨fun _ _ e => e, h.sF, fun a m => .inl m, fun a m => m, hl, fun _ => [], fun j s e => ?_, fun j hj a ha => (nomatch ha), fun j l _ _ a ha => (nomatch ha), fun j _ => List.nodup_nil⟩
  have hj := lt_of_get e
  obtain ⟨τ, S, x, rfl, cp⟩ := sh.slot j s e
  obtain ⟨v, e1, r, _⟩ := q.ok j _ (by rw [List.getElem?_append_left hj]; exact e)
  rw [List.getElem?_append_left (by omega)] at e1
  have z := cp.nil r
  rw [z] at r
  exact ⟨v, e1, r, fun _ m => nomatch m⟩
def hun (F G : Hp) : Hp := fun a => match F a with
  | some o => some o
  | none => G a
theorem same_hunL : Same F (hun F F') := fun a o e => by unfold hun; rw [e]
theorem same_hunR (s : Same F H) (s' : Same F' H) : Same F' (hun F F') := fun a o e => by
  unfold hun
  cases q : F a with
  | none => exact e
  | some u =>
    have h1 := s a u q
    have h2 := s' a o e
    rw [h1] at h2
    exact h2
theorem hun_same (s : Same F H) (s' : Same F' H) : Same (hun F F') H := fun a o e => by
  unfold hun at e
  cases q : F a with
  | none => rw [q] at e; exact s' a o e
  | some u' =>
    rw [q] at e
    have e' : u' = o := Option.some.inj e
    rw [← e']
    exact s a u' q
theorem hun_some {a : Addr} (h : hun F F' a ≠ none) : F a ≠ none ∨ F' a ≠ none := by
  unfold hun at h
  cases q : F a with
  | none => rw [q] at h; exact .inr h
  | some u => exact .inl (by intro z; cases z)
theorem hun_none {a : Addr} (h : F a = none) (h' : F' a = none) : hun F F' a = none := by
  unfold hun; rw [h]; exact h'
/-- out of it -/
theorem ER.back (h : ER C F H σ env) (hc : ER ⟨C.K, H, F, H, []⟩ F' H' [some v] [.st none R SR r]) : ∃ F'', ER C F'' H' (some v :: σ) (.st none R SR r :: env) := by
  have sFH : Same F H' := fun a o e => hc.sB a o (h.sF a o e)
  have nw : ∀ a, hun F F' a ≠ none → F a ≠ none ∨ H a = none := fun a m => by
    rcases hun_some m with z | z
    · exact .inl z
    · exact hc.gr a z
  have h2 := h.grow (F' := hun F F') (H' := H') hc.sB same_hunL (hun_same sFH hc.sF) nw
  obtain ⟨fp, q⟩ := h.sl
  have q2 := q.grow h hc.sB (F' := hun F F') same_hunL nw
  obtain ⟨fq, qc⟩ := hc.sl
  obtain ⟨v', e1, rr, ne⟩ := qc.ok 0 _ rfl
  simp at e1; subst e1
  refine ⟨hun F F', h2.sB, h2.sF, h2.gr, h2.up, by simp [h2.len], _, q2.push (fq := fq 0) ⟨v, rfl, SR.monoF (same_hunR sFH hc.sF) rr, fun a m => h.hnone (ne a m)⟩ (fun a m => ?_) (qc.nd 0 (by simp)) fun j hj a ha m => ?_⟩
  · obtain ⟨b, f, c⟩ := qc.own 0 (by simp) a m
    exact ⟨h.bnone b, hun_none (h.fnone b) f, c⟩
  · exact (q.own j hj a ha).2.2 (ne a m)
/-- the promise of a def over shared arguments -/
def spP (K : Fg) {A R : Type} (sl : A → Env) (SR : Stor R) (m : A → Option R) : Sp := fun vs H Q _ => ∃ (B F : Hp) (a : A) (r : R), m a = some r ∧ (vs.map some).length = (sl a).length ∧ ER ⟨K, B, F, H, []⟩ F H (vs.map some) (sl a) ∧
  ∀ F' H' v, ER ⟨K, B, F, H, []⟩ F' H' [some v] [.st none R SR r] → Q v H'
/-- .. that changes its first argument -/
def spI (K : Fg) {A T R : Type} (ST : Stor T) (sl : A → Env) (SR : Stor R) (m : T → A → Option (R × T)) : Sp := fun vs H Q _ => ∃ (B F : Hp) (io : List Addr) (t : T) (a : A) (r : R) (t' : T) (v0 : V) (vs' : List V), vs = v0 :: vs' ∧ m t a = some (r, t') ∧ (vs'.map some).length = (sl a).length ∧
  ER ⟨K, B, F, H, io⟩ F H (vs.map some) (.st (some v0) T ST t :: sl a) ∧ ∀ F' H' v, ER ⟨K, B, F, H, io⟩ F' H' [some v, some v0] [.st none R SR r, .st (some v0) T ST t'] → Q v H'
theorem ER.head {s : Slot} (h : ER C F H (o :: σ) (s :: env)) : ER C F H [o] [s] :=
  h.perm rfl id fun j s' e => by
    cases j with
    | zero => exact .inr ⟨by simpa using e, rfl, fun l _ el _ z => by simpa using z⟩
    | succ j => simp at e
theorem ER.head2 {o2 : Option V} {s s2 : Slot} (h : ER C F H (o :: o2 :: σ) (s :: s2 :: env)) : ER C F H [o, o2] [s, s2] :=
  h.perm rfl id fun j s' e => by
    match j, e with
    | 0, e => exact .inr ⟨by simpa using e, rfl, fun l _ el _ z => by simpa using z⟩
    | 1, e => exact .inr ⟨by simpa using e, rfl, fun l _ el _ z => by simpa using z⟩
    | j + 2, e => simp at e
theorem ER.padR (h : ER C F H σ env) : ∀ n : Nat, ER C F H (σ ++ List.replicate n none) (env ++ List.replicate n .un) := fun n =>
  h.perm (by simp [h.len]) id fun j s' e => by
    by_cases z : j < env.length
    · rw [List.getElem?_append_left z] at e
      exact .inr ⟨e, by rw [List.getElem?_append_left (by rw [h.len]; exact z)]; rfl, fun l _ _ _ y => y⟩
    · rw [List.getElem?_append_right (by omega), List.getElem?_replicate] at e
      split at e
      · exact .inl (Option.some.inj e).symm
      · cases e
end

section
variable {P : Program} {w : World} {K : Fg} {mg : Str → Option Value} {base : Heap}
/-- THE RULE for a def over shared arguments: its body walked -/
theorem fnP {x qual : Str} {st : Stmt} {f : Addr} {fd : FuncData} {N ps : List Str} {k : Nat} {A R : Type} {sl : A → Env} {SR : Stor R} {m : A → Option R} (F : Fun K x qual st f fd) (S : FnScope N ps (defScope st)) (n : Nat) (hn : N.length - ps.length = n) (hl : ∀ a, (sl a).length = ps.length)
    (hb : ∀ (cdv : Value) (A' : Around) (outer : List PySem.Env) (s : Shared) (H : Hp) (E : XK), Room k (A'.deeper (envOfC qual (defScope st) s.heap.objs.size f cdv)) → ∀ a : A,
      LB (cxOf CX0 P w K mg base N qual (defScope st) f cdv A' outer s H E).nox SR (fun _ : Unit => List.replicate (ps.length + n) .un) (fun (r : R) (_ : Unit) => some r) (noLp R) (noLp R) (sl a ++ List.replicate n .un) (defBody st) (fun z : Empty => z.elim) (fun _ => m a)) :
    FnOk P w K mg base CX0 (k + 1) f fd ps (spP K sl SR m) := by
  have hlen : ∀ vs H Q E, spP K sl SR m vs H Q E → vs.length = ps.length := fun vs H Q E h => by
    obtain ⟨B, F0, a, r, _, h2, _⟩ := h
    rw [List.length_map] at h2; rw [h2, hl a]
  refine F.ok S hlen fun cdv A' outer s H vs Q E hr h => ?_
  have hlv := hlen vs H Q E h
  obtain ⟨B, F0, a, r, hm, _, her, q⟩ := h
  refine ⟨_, pssC _, ?_⟩
  have hst : L2.start N vs = vs.map some ++ List.replicate n none := by unfold L2.start; rw [hlv, hn]
  rw [hst]
  refine hb cdv A' outer s H E hr a ⟨K, B, F0, H, []⟩ F0 H [] [] _ (fun z => z.elim) r { nx := fun _ H' => Q .non H', rt := Q } rfl rfl (her.padR n) hm (fun z => z.elim) (fun z => z.elim) (fun z => z.elim) ?_
  intro a' i v F' H' σ' e h'
  cases e
  exact q F' H' v h'.head
/-- .. that changes its first argument -/
theorem fnI {x qual : Str} {st : Stmt} {f : Addr} {fd : FuncData} {N ps : List Str} {k : Nat} {A T R : Type} {ST : Stor T} {sl : A → Env} {SR : Stor R} {m : T → A → Option (R × T)} (F : Fun K x qual st f fd) (S : FnScope N ps (defScope st)) (n : Nat) (hn : N.length - ps.length = n) (hl : ∀ a, (sl a).length + 1 = ps.length)
    (hb : ∀ (cdv : Value) (A' : Around) (outer : List PySem.Env) (s : Shared) (H : Hp) (E : XK), Room k (A'.deeper (envOfC qual (defScope st) s.heap.objs.size f cdv)) → ∀ (v0 : V) (t : T) (a : A),
      LB (cxOf CX0 P w K mg base N qual (defScope st) f cdv A' outer s H E).nox SR (fun t' : T => .st (some v0) T ST t' :: List.replicate (N.length - 1) .un) (fun (r : R) (t' : T) => some (r, t')) (noLp (R × T)) (noLp (R × T)) (.st (some v0) T ST t :: (sl a ++ List.replicate n .un)) (defBody st) (fun z : Empty => z.elim) (fun _ => m t a)) :
    FnOk P w K mg base CX0 (k + 1) f fd ps (spI K ST sl SR m) := by
  have hlen : ∀ vs H Q E, spI K ST sl SR m vs H Q E → vs.length = ps.length := fun vs H Q E h => by
    obtain ⟨B, F0, io, t, a, r, t', v0, vs', rfl, _, h2, _⟩ := h
    rw [List.length_map] at h2; rw [List.length_cons, h2, hl a]
  refine F.ok S hlen fun cdv A' outer s H vs Q E hr h => ?_
  have hlv := hlen vs H Q E h
  obtain ⟨B, F0, io, t, a, r, t', v0, vs', rfl, hm, _, her, q⟩ := h
  refine ⟨_, pssC _, ?_⟩
  have hst : L2.start N (v0 :: vs') = (v0 :: vs').map some ++ List.replicate n none := by unfold L2.start; rw [hlv, hn]
  rw [hst]
  refine hb cdv A' outer s H E hr v0 t a ⟨K, B, F0, H, io⟩ F0 H [] [] _ (fun z => z.elim) (r, t') { nx := fun _ H' => Q .non H', rt := Q } rfl rfl (her.padR n) hm (fun z => z.elim) (fun z => z.elim) (fun z => z.elim) ?_
  intro a' i v F' H' σ' e h'
  cases e
  have hls : σ'.length = N.length - 1 + 1 := by have := h'.len; simpa using this
  cases σ' with
  | nil => simp at hls
  | cons o σ' =>
    have h3 : ER ⟨K, B, F0, H, io⟩ F' H' (some v :: o :: σ') (.st none R SR r :: .st (some v0) T ST t' :: List.replicate (N.length - 1) .un) := h'
    have ho : o = some v0 := by
      obtain ⟨fp, qq⟩ := h3.sl
      obtain ⟨v', e1, _, e2⟩ := qq.ok 1 _ rfl
      simp at e1
      rw [e1, e2.1]
    subst ho
    exact q F' H' v h3.head2
end
section
variable {X : Cx} {Ω : Type} {env : Env} {nm : Str} {pos np : Pos} {e : Expr} {xs : List Expr} {Pt A R T : Type} {SR : Stor R} {ST : Stor T} {e' : Pt → Env} {sl : A → Env} {k : Nat} {f : Addr} {fd : FuncData} {ps : List Str}
/-- f(..) -/
theorem lx_call {m : A → Option R} {fa : (A → Pt → Option Ω) → Option Ω} (Fn : FnOk X.prog X.w X.K X.mg X.base CX0 k f fd ps (spP X.K sl SR m)) (hr : Room k X.A) (hm : X.mg nm = some (.ref f)) (hk : PySem.W.keepIn X.K (.ref f) = true) (hb : Binds X.K fd ps []) (sh : ∀ a, ShE (sl a))
    (ha : LA X env (e :: xs) sl e' fa) (hg : Gl X nm := by rfl) (hdb : (nm == ("__debug__" : Str)) = false := by decide) (he : starEach (e :: xs) X.env = (false, eval e X.env) :: starEach xs X.env := by rfl) (hpl : (backTo pos (starEach xs X.env)).any (·.1) = false := by rfl) :
    LX X env (.Call (.Name nm np) (e :: xs) [] pos) SR e' (fun k => fa fun a p => (m a).bind fun r => k r p) :=
  fun C F H σs es σ k ω Q hK hl h hk' q => tE.of X (pe_call Fn hr hg hm hk hb .nil pass0 (paC X) hdb he hpl) (ha C F H σs es σ _ ω _ hK hl h hk' fun a p vs F' H' hk2 hlv h' => by
    obtain ⟨r, hm', hk2⟩ := bind_some hk2
    show spP X.K sl SR m (vs ++ []) H' Q _
    rw [List.append_nil, ← hK]
    exact ⟨H', F', a, r, hm', hlv, h'.enter hlv (sh a), fun F2 H2 v h2 => by
      obtain ⟨F3, h3⟩ := (h'.popN hlv).back h2
      exact q r p v F3 H2 hk2 h3⟩)
theorem lx_call0 {m : Unit → Option R} (Fn : FnOk X.prog X.w X.K X.mg X.base CX0 k f fd ps (spP X.K (fun _ : Unit => []) SR m)) (hr : Room k X.A) (hm : X.mg nm = some (.ref f)) (hk : PySem.W.keepIn X.K (.ref f) = true) (hb : Binds X.K fd ps [])
    (hg : Gl X nm := by rfl) (hdb : (nm == ("__debug__" : Str)) = false := by decide) :
    LX X env (.Call (.Name nm np) [] [] pos) SR (fun _ : Unit => env) (fun (k : R → Unit → Option Ω) => (m ()).bind fun r => k r ()) :=
  fun C F H σs es σ k ω Q hK hl h hk' q => tE.of X (pe_call0 Fn hr hg hm hk hb .nil pass0 hdb) (by
    obtain ⟨r, hm', hk2⟩ := bind_some hk'
    show spP X.K _ SR m [] H Q E0
    rw [← hK]
    refine ⟨H, F, (), r, hm', rfl, ER.enter (σa := []) (ea := []) h rfl .nil, fun F2 H2 v h2 => ?_⟩
    obtain ⟨F3, h3⟩ := h.back h2
    exact q r () v F3 H2 hk2 h3)
/-- into a def that changes the object of slot i -/
theorem ER.enterI {C : Ck} {F H : Hp} {σ : List (Option V)} {env : Env} {w : Option V} {t : T} {v0 : V} {i : Nat} {σa : List (Option V)} {ea : Env} (h : ER C F H (σa ++ σ) (ea ++ env)) (hl : σa.length = ea.length) (sh : ShE ea) (hi : env[i]? = some (.st w T ST t)) (hv : σ[i]? = some (some v0)) :
    ∃ B io, ER ⟨C.K, B, F, H, io⟩ F H (some v0 :: σa) (.st (some v0) T ST t :: ea) ∧ ∀ (R : Type) (SR : Stor R) (r : R) (t' : T) (F' H' : Hp) (v : V), ER ⟨C.K, B, F, H, io⟩ F' H' [some v, some v0] [.st none R SR r, .st (some v0) T ST t'] →
      ∃ F'', ER C F'' H' (some v :: σ) (.st none R SR r :: env.set i (.st w T ST t')) := by
  have h0 : ER C F H σ env := h.popN hl
  obtain ⟨fp, q⟩ := h0.sl
  have hil := lt_of_get hi
  obtain ⟨v', e1, rr, kk⟩ := q.ok i _ hi
  rw [hv] at e1
  simp at e1; subst e1
  have he := h.enter hl sh
  obtain ⟨fe, qe⟩ := he.sl
  refine ⟨fun a => if a ∈ fp i then none else H a, fp i, ⟨fun a o e => ?_, h0.sF, fun a m => .inl m, fun a m => m, by simp [hl], _, Fps.push (fp := fun _ => []) ⟨fun j s e => ?_, fun j hj a ha => (nomatch ha), fun j l _ _ a ha => (nomatch ha), fun j _ => List.nodup_nil⟩ (fq := fp i) ⟨v0, rfl, rr, rfl, fun a m => .inr m⟩ (fun a m => ⟨if_pos m, (q.own i hil a m).2⟩) (q.nd i hil) fun j _ a ha => (nomatch ha)⟩, ?_⟩
  · have e : (if a ∈ fp i then none else H a) = some o := e
    by_cases m : a ∈ fp i
    · rw [if_pos m] at e; cases e
    · rw [if_neg m] at e; exact e
  · obtain ⟨τ, S, x, rfl, cp⟩ := sh.slot j s e
    obtain ⟨v, e1, r, _⟩ := qe.ok j _ e
    have z := cp.nil r
    rw [z] at r
    exact ⟨v, e1, r, fun _ m => nomatch m⟩
  · intro R SR r t' F' H' v hc
    have bk : ∀ a, H a ≠ none → a ∉ fp i → H' a = H a := fun a m n => by
      cases e : H a with
      | none => exact absurd e m
      | some o => exact hc.sB a o (by show (if a ∈ fp i then none else H a) = _; rw [if_neg n]; exact e)
    have fn : ∀ a, F a ≠ none → a ∉ fp i := fun a m z => m (q.own i hil a z).2.1
    have bn : ∀ a, C.B a ≠ none → a ∉ fp i := fun a m z => m (q.own i hil a z).1
    have sFH : Same F H' := fun a o e => by
      have m : F a ≠ none := by rw [e]; exact fun z => by cases z
      rw [bk a (same_some h0.sF m) (fn a m)]; exact h0.sF a o e
    have up' : ∀ a, H a ≠ none → H' a ≠ none := fun a m => hc.up a m
    obtain ⟨fc, qc⟩ := hc.sl
    obtain ⟨v1, ev1, r1, n1⟩ := qc.ok 0 _ rfl
    obtain ⟨v2, ev2, r2, n2⟩ := qc.ok 1 _ rfl
    simp at ev1 ev2; subst ev1; subst ev2
    have l0 : 0 < ([.st none R SR r, .st (some v0) T ST t'] : Env).length := by simp
    have l1 : 1 < ([.st none R SR r, .st (some v0) T ST t'] : Env).length := by simp
    have i1 : ∀ a ∈ fc 1, H a = none ∨ a ∈ fp i := n2.2
    have sep01 : ∀ a ∈ fc 0, a ∉ fc 1 := fun a m z => by have := qc.sep 0 1 l0 l1 a m z; omega
    have fnn : ∀ a, (H a = none ∨ a ∈ fp i) → F a = none := fun a m => by
      rcases m with m | m
      · exact h0.fnone m
      · exact (q.own i hil a m).2.1
    have bnn : ∀ a, (H a = none ∨ a ∈ fp i) → C.B a = none := fun a m => by
      rcases m with m | m
      · exact h0.bnone m
      · exact (q.own i hil a m).1
    have jH : ∀ j, j < env.length → j ≠ i → ∀ a ∈ fp j, ¬ (H a = none ∨ a ∈ fp i) := fun j hj ne a ha z => by
      rcases z with z | z
      · exact (q.own j hj a ha).2.2 z
      · exact ne (q.sep j i hj hil a ha z)
    refine ⟨hun F F', fun a o e => ?_, hun_same sFH hc.sF, fun a m => ?_, fun a m => up' a (h0.up a m), by simp [h0.len], _, Fps.push (fp := fun j => if j = i then fc 1 else fp j) ⟨fun j s ej => ?_, fun j hj a ha => ?_, fun j l hj hl a ha hb => ?_, fun j hj => ?_⟩ (fq := fc 0) ⟨v, rfl, SR.monoF (same_hunR sFH hc.sF) r1, fun a m => h0.hnone (n1 a m)⟩ (fun a m => ?_) (qc.nd 0 l0) fun j hj a ha m => ?_⟩
    · have m : C.B a ≠ none := by rw [e]; exact fun z => by cases z
      rw [bk a (same_some h0.sB m) (bn a m)]; exact h0.sB a o e
    · rcases hun_some m with z | z
      · exact h0.gr a z
      · rcases hc.gr a z with y | y
        · exact h0.gr a y
        · exact .inr (h0.hnone y)
    · by_cases z : j = i
      · subst z
        rw [List.getElem?_set_self hil] at ej
        cases ej
        simp only [if_pos]
        refine ⟨v0, by rw [hv]; rfl, ST.monoF (same_hunR sFH hc.sF) r2, ?_⟩
        cases w with
        | none =>
          intro a ha
          rcases i1 a ha with m | m
          · exact h0.hnone m
          · exact kk a m
        | some w0 =>
          refine ⟨kk.1, fun a ha => ?_⟩
          rcases i1 a ha with m | m
          · exact .inl (h0.hnone m)
          · exact kk.2 a m
      · rw [List.getElem?_set_ne (fun y => z y.symm)] at ej
        have hj := lt_of_get ej
        simp only [if_neg z]
        exact (q.ok j s ej).go same_hunL (fun a m => bk a (same_some h0.sB m) (bn a m)) fun a ha => bk a (q.own j hj a ha).2.2 fun y => jH j hj z a ha (.inr y)
    · have hj' : j < env.length := by simpa using hj
      by_cases z : j = i
      · simp only [if_pos z] at ha
        exact ⟨bnn a (i1 a ha), hun_none (fnn a (i1 a ha)) (qc.own 1 l1 a ha).2.1, (qc.own 1 l1 a ha).2.2⟩
      · simp only [if_neg z] at ha
        obtain ⟨b, f, c⟩ := q.own j hj' a ha
        refine ⟨b, hun_none f ?_, up' a c⟩
        cases e : F' a with
        | none => rfl
        | some o =>
          rcases hc.gr a (by rw [e]; exact fun z => by cases z) with y | y
          · exact absurd f y
          · exact absurd y c
    · have hj' : j < env.length := by simpa using hj
      have hl' : l < env.length := by simpa using hl
      by_cases zj : j = i
      · by_cases zl : l = i
        · rw [zj, zl]
        · simp only [if_pos zj] at ha
          simp only [if_neg zl] at hb
          exact absurd (i1 a ha) (jH l hl' zl a hb)
      · simp only [if_neg zj] at ha
        by_cases zl : l = i
        · simp only [if_pos zl] at hb
          exact absurd (i1 a hb) (jH j hj' zj a ha)
        · simp only [if_neg zl] at hb
          exact q.sep j l hj' hl' a ha hb
    · have hj' : j < env.length := by simpa using hj
      by_cases z : j = i
      · simp only [if_pos z]; exact qc.nd 1 l1
      · simp only [if_neg z]; exact q.nd j hj'
    · have := n1 a m
      exact ⟨h0.bnone this, hun_none (h0.fnone this) (qc.own 0 l0 a m).2.1, (qc.own 0 l0 a m).2.2⟩
    · have hj' : j < env.length := by simpa using hj
      by_cases z : j = i
      · simp only [if_pos z] at ha
        exact sep01 a m ha
      · simp only [if_neg z] at ha
        exact (q.own j hj' a ha).2.2 (n1 a m)
/-- f(x, ..), f changes x's object -/
theorem lx_callI {w : Option V} {t0 : T} {t : Pt → T} {m : T → A → Option (R × T)} {fa : (A → Pt → Option Ω) → Option Ω} {vn : Str} {vp : Pos} (i : Nat) (Fn : FnOk X.prog X.w X.K X.mg X.base CX0 k f fd ps (spI X.K ST sl SR m)) (hr : Room k X.A) (hm : X.mg nm = some (.ref f)) (hk : PySem.W.keepIn X.K (.ref f) = true) (hb : Binds X.K fd ps []) (sh : ∀ a, ShE (sl a))
    (h0 : env[i]? = some (.st w T ST t0)) (ha : LA X env xs sl e' fa) (h1 : ∀ p, (e' p)[i]? = some (.st w T ST (t p))) (hN : X.N[i]? = some vn := by rfl) (hv : Vis X.env.scope vn := by first | exact Or.inl rfl | exact Or.inr (Or.inl rfl) | exact Or.inr (Or.inr rfl)) (hd : (vn == ("__debug__" : Str)) = false := by decide) (hcd : (vn == ("__classdict__" : Str)) = false := by decide)
    (hg : Gl X nm := by rfl) (hdb : (nm == ("__debug__" : Str)) = false := by decide) (he : starEach (Expr.Name vn vp :: xs) X.env = (false, eval (Expr.Name vn vp) X.env) :: starEach xs X.env := by rfl) (hpl : (backTo pos (starEach xs X.env)).any (·.1) = false := by rfl) :
    LX X env (.Call (.Name nm np) (.Name vn vp :: xs) [] pos) SR (fun p : Pt × T => (e' p.1).set i (.st w T ST p.2)) (fun k => fa fun a p => (m (t p) a).bind fun r => k r.1 (p, r.2)) :=
  fun C F H σs es σ k ω Q hK hl h hk' q => tE.of X (pe_call Fn hr hg hm hk hb .nil pass0 (paC X) hdb he hpl) (la_lend i h0 hN hv ha hd hcd he C F H σs es σ _ ω _ hK hl h hk' fun a p v0 vs F' H' hk2 hv0 hlv h' => by
    obtain ⟨⟨r, t'⟩, hm', hk2⟩ := bind_some hk2
    show spI X.K ST sl SR m (v0 :: vs ++ []) H' Q _
    rw [List.append_nil, ← hK]
    have h2 : ER C F' H' (vs.map some ++ (σs ++ σ)) (sl a ++ (es ++ e' p)) := h'
    obtain ⟨B, io, g1, g2⟩ := h2.enterI (i := es.length + i) (v0 := v0) hlv (sh a) (by rw [at_app _ rfl]; exact h1 p) (by rw [at_app _ hl]; exact hv0)
    refine ⟨B, F', io, t p, a, r, t', v0, vs, rfl, hm', hlv, g1, fun F2 H2 v h3 => ?_⟩
    obtain ⟨F3, h4⟩ := g2 R SR r t' F2 H2 v h3
    rw [List.set_append_right _ _ (Nat.le_add_right _ _), Nat.add_sub_cancel_left] at h4
    exact q r (p, t') v F3 H2 hk2 h4)
end
end Z

set_option Elab.async false
set_option linter.all false
set_option maxRecDepth 100000
namespace Z
open PySem PySem.Spec PyProof.Rows L2

/-! ### comprehensions -/
def compO {α β S Ω : Type} : List α → S → (α → S → (Option β → S → Option Ω) → Option Ω) → List β → (List β → S → Option Ω) → Option Ω
  | [], s, _, acc, k => k acc s
  | x :: xs, s, b, acc, k => b x s fun o s' => match o with
    | some y => ck (decide (acc.length < SZ)) (compO xs s' b (acc ++ [y]) k)
    | none => compO xs s' b acc k
section
variable {C : Ck} {F F' H H' : Hp} {σ σ' σs : List (Option V)} {env es : Env}
theorem ER.like (h : ER C F H (σs ++ σ) (es ++ env)) (hl : σs.length = es.length) (hl2 : σ'.length = σ.length) (he : ∀ (j : Nat) (s : Slot), env[j]? = some s → s = Slot.un ∨ σ'[j]? = σ[j]?) : ER C F H (σs ++ σ') (es ++ env) := by
  have hls := h.lenF hl
  refine h.perm (by simp [hl, hl2, hls]) id fun j s' e => ?_
  by_cases z : j < es.length
  · exact .inr ⟨e, by rw [id, List.getElem?_append_left (by omega), List.getElem?_append_left (by omega)], fun l _ _ _ y => y⟩
  · obtain ⟨m, rfl⟩ : ∃ m, j = es.length + m := ⟨j - es.length, by omega⟩
    have e' := e
    rw [at_app _ rfl] at e'
    rcases he m s' e' with y | y
    · exact .inl y
    · exact .inr ⟨e, by rw [id, at_app _ hl, at_app _ hl, y], fun l _ _ _ y => y⟩
end
section
variable (X : Cx) {Ω : Type}
def tTl (ifs : List Expr) : TT := fun σ H Q => ∀ pins s, Inv X pins σ H s → wpAny (model X.prog X.w) X.A (forIn ifs true fun c r => if r = true then do let ok ← isTrue c X.env (eval c X.env); pure (ForInStep.yield ok) else pure (ForInStep.yield r)) (TP X pins σ Q) X.xe s
theorem ptsC {ifs : List Expr} : PTs X ifs (tTl X ifs) := ⟨fun pins s σ H Q I h => h pins s I⟩
theorem tTl.of {ifs : List Expr} {t : TT} {σ : L2.St} {H : Hp} {Q : Bool → Hp → Prop} (h : PTs X ifs t) (q : t σ H Q) : tTl X ifs σ H Q := fun pins s I => h.run pins s σ H Q I q
/-- the tests of a comprehension -/
def LTl (env : Env) (ifs : List Expr) {P : Type} (env' : P → Env) (f : (Bool → P → Option Ω) → Option Ω) : Prop :=
  ∀ (C : Ck) (F H : Hp) (σs : List (Option V)) (es : Env) (σ : List (Option V)) (k : Bool → P → Option Ω) (ω : Ω) (Q : Bool → Hp → Prop), C.K = X.K → σs.length = es.length → ER C F H (σs ++ σ) (es ++ env) → f k = some ω →
    (∀ a p F' H', k a p = some ω → ER C F' H' (σs ++ σ) (es ++ env' p) → Q a H') → tTl X ifs σ H Q
end
/-- the contexts of a block's turns -/
structure Blk (X : Cx) (scope : Scope) (Y : Cx) : Prop where
  is : ∃ (s : Shared) (H : Hp) (C : Addr) (cl : List (Str × Addr)) (fp : List Addr), Y = X.blk s H scope (compEnvC scope cl C X.env) fp
section
variable {X : Cx} {Ω : Type} {env : Env} {nm : Str} {pos spos np : Pos} {a b c e elt tg iter : Expr} {ifs : List Expr} {P P1 P2 T : Type} {τ τ1 τ2 α β : Type} {S : Stor τ} {Sa : Stor α} {Sb : Stor β} {E : Enc τ} {e' : P → Env} {scope : Scope} {own : List (Str × Nat)} {ix : List Nat}
theorem ltl_nil : LTl X env [] (fun _ : Unit => env) (fun (k : Bool → Unit → Option Ω) => k true ()) :=
  fun C F H σs es σ k ω Q hK hl hr hk q => tTl.of X pts_nil (q true () F H hk hr)
theorem ltl_one {f : (Bool → P → Option Ω) → Option Ω} (h : LT X env c e' f) : LTl X env [c] e' f :=
  fun C F H σs es σ k ω Q hK hl hr hk q => tTl.of X (pts_one (ptC X)) (h C F H σs es σ k ω Q hK hl hr hk q)
theorem lc_run {envT : T → Env} {envX : T → α → Env} {eT : T → α → P1 → Env} {eE : T → α → P1 → P2 → Env} {f : (List α → P → Option Ω) → Option Ω} {ft : T → α → (Bool → P1 → Option Ω) → Option Ω} {fe : T → α → P1 → (β → P2 → Option Ω) → Option Ω}
    (hi : LI X env tg iter Sa e' f) (s0 : P → T) (h0 : ∀ p, Sub (e' p) (envT (s0 p))) (hu : ∀ (t : T) (i : Nat) (s : Slot), i ∈ own.map (·.2) → (envT t)[i]? = some s → s = Slot.un)
    (hg : ∀ Y, Blk X scope Y → ∀ t, LG Y (own.map (·.2)) (envT t) tg Sa (envX t)) (ht : ∀ Y, Blk X scope Y → ∀ t x, LTl Y (envX t x) ifs (eT t x) (ft t x)) (he : ∀ Y, Blk X scope Y → ∀ t x p, LX Y (eT t x p) elt Sb (eE t x p) (fe t x p))
    (tn : T → α → P1 → P2 → T) (hn : ∀ t x p q, Sub (eE t x p q) (envT (tn t x p q))) (tf : T → α → P1 → T) (hf : ∀ t x p, Sub (eT t x p) (envT (tf t x p)))
    {C : Ck} {F H : Hp} {σs : List (Option V)} {es : Env} {σ : List (Option V)} {k : List β → T → Option Ω} {ω : Ω} {Q : VK} (hK : C.K = X.K) (hl : σs.length = es.length) (h : ER C F H (σs ++ σ) (es ++ env))
    (hk : (f fun xs p => compO xs (s0 p) (fun x t kc => ft t x fun b p1 => if b = true then fe t x p1 fun y p2 => kc (some y) (tn t x p1 p2) else kc none (tf t x p1)) [] k) = some ω)
    (q : ∀ ys t v F' H', k ys t = some ω → ER C F' H' (some v :: (σs ++ σ)) (.st none (List β) (ls Sb) ys :: (es ++ envT t)) → Q v H') :
    tLc (tI X tg iter) (fun v σ H Q => ∀ Y, Blk X scope Y → tG Y tg v σ H Q) (fun σ H Q => ∀ Y, Blk X scope Y → tTl Y ifs σ H Q) (fun σ H Q => ∀ Y, Blk X scope Y → tE Y elt σ H Q) (own.map (·.2)) σ H Q := by
  refine hi C F H σs es σ _ ω _ hK hl h hk fun xs p Jt F' H' σx ex hk' h' hy => ?_
  intro D nD
  have like : ∀ {F2 H2 σp ep t}, σp.length = ep.length → ER C F2 H2 (σp ++ (σx ++ (σs ++ σ))) (ep ++ (ex ++ (es ++ envT t))) → ER C F2 H2 (σp ++ (σx ++ (σs ++ wipe σ (own.map (·.2))))) (ep ++ (ex ++ (es ++ envT t))) := fun {F2 H2 σp ep t} hlp h2 => by
    have h3 : ER C F2 H2 ((σp ++ σx ++ σs) ++ σ) ((ep ++ ex ++ es) ++ envT t) := by simpa [List.append_assoc] using h2
    have := h3.like (σ' := wipe σ (own.map (·.2))) (by simp [hlp, hl, hy.len]) (wipe_length _ _) fun j s e => by
      by_cases m : j ∈ own.map (·.2)
      · exact .inl (hu t j s m e)
      · refine .inr ?_
        rw [wipe_get, if_neg m]
    simpa [List.append_assoc] using this
  have unlike : ∀ {F2 H2 σp ep t σ4}, σp.length = ep.length → σ4.length = σ.length → wipe σ4 (own.map (·.2)) = wipe σ (own.map (·.2)) → ER C F2 H2 (σp ++ (σx ++ (σs ++ σ4))) (ep ++ (ex ++ (es ++ envT t))) → ER C F2 H2 (σp ++ (σx ++ (σs ++ σ))) (ep ++ (ex ++ (es ++ envT t))) := fun {F2 H2 σp ep t σ4} hlp hl4 hw h2 => by
    have h3 : ER C F2 H2 ((σp ++ σx ++ σs) ++ σ4) ((ep ++ ex ++ es) ++ envT t) := by simpa [List.append_assoc] using h2
    have := h3.like (σ' := σ) (by simp [hlp, hl, hy.len]) hl4.symm fun j s e => by
      by_cases m : j ∈ own.map (·.2)
      · exact .inl (hu t j s m e)
      · refine .inr ?_
        have := congrArg (fun l => l[j]?) hw
        simp only [wipe_get, if_neg m] at this
        exact this.symm
    simpa [List.append_assoc] using this
  have hnew : ER C F' (upd H' D (.lst [])) (some (.ref D) :: (σx ++ (σs ++ σ))) (.st none (List β) (ls Sb) [] :: (ex ++ (es ++ e' p))) := h'.newOw nD ⟨D, [], [], rfl, upd_same, .nil, rfl⟩
  refine ⟨fun i m H2 => m = xs.length - i ∧ i ≤ xs.length ∧ ∃ acc t F2, ER C F2 H2 (some (.ref D) :: (σx ++ (σs ++ σ))) (.st none (List β) (ls Sb) acc :: (ex ++ (es ++ envT t))) ∧
    compO (xs.drop i) t (fun x t kc => ft t x fun b p1 => if b = true then fe t x p1 fun y p2 => kc (some y) (tn t x p1 p2) else kc none (tf t x p1)) acc k = some ω,
    ⟨xs.length, by simp, Nat.zero_le _, [], s0 p, F', ER.sub hnew (.keep (((h0 p).pre es).pre ex)), by simpa using hk'⟩, ?_⟩
  rintro i m H2 ⟨rfl, hi', acc, t, F2, h2, hk2⟩
  obtain ⟨y1, y2⟩ := hy.go i F2 H2 [some (.ref D)] (σs ++ σ) [.st none (List β) (ls Sb) acc] (es ++ envT t) rfl h2
  by_cases hlt : i < xs.length
  · have ex1 : xs[i]? = some xs[i] := List.getElem?_eq_getElem hlt
    obtain ⟨g1, g2⟩ := y1 _ ex1
    have ed : xs.drop i = xs[i] :: xs.drop (i + 1) := List.drop_eq_getElem_cons hlt
    rw [ed] at hk2
    refine .inr ⟨g1, fun H3 => ∃ acc t F3, ER C F3 H3 (some (.ref D) :: (σx ++ (σs ++ σ))) (.st none (List β) (ls Sb) acc :: (ex ++ (es ++ envT t))) ∧
      compO (xs.drop (i + 1)) t (fun x t kc => ft t x fun b p1 => if b = true then fe t x p1 fun y p2 => kc (some y) (tn t x p1 p2) else kc none (tf t x p1)) acc k = some ω,
      fun H3 ⟨acc3, t3, F3, h3, hk3⟩ => ⟨xs.length - (i + 1), by omega, rfl, hlt, acc3, t3, F3, h3, hk3⟩, fun v H3 hv Y bY => ?_⟩
    have YK : C.K = Y.K := by obtain ⟨_, _, _, _, _, rfl⟩ := bY.is; exact hK
    obtain ⟨F3, h3⟩ := g2 v H3 hv
    have h3' := like (σp := [some v, some (.ref D)]) (ep := [.st none α Sa xs[i], .st none (List β) (ls Sb) acc]) rfl h3
    have lenp : ((some (.ref D) : Option V) :: (σx ++ σs)).length = ((.st none (List β) (ls Sb) acc : Slot) :: (ex ++ es)).length := by simp [hl, hy.len]
    refine hg Y bY t C F3 H3 (some (.ref D) :: (σx ++ σs)) (.st none (List β) (ls Sb) acc :: (ex ++ es)) (wipe σ (own.map (·.2))) v xs[i] _ YK lenp (by simpa [List.append_assoc] using h3') fun σ4 e4 h4 => ?_
    have hw : wipe σ4 (own.map (·.2)) = wipe (wipe σ (own.map (·.2))) (own.map (·.2)) := e4.wipe
    have hww : wipe (wipe σ (own.map (·.2))) (own.map (·.2)) = wipe σ (own.map (·.2)) := by
      apply List.ext_getElem?
      intro j
      rw [wipe_get, wipe_length, wipe_get]
      by_cases m : j ∈ own.map (·.2)
      · rw [if_pos m, if_pos m]
      · rw [if_neg m, if_neg m]
    have hl4 : σ4.length = σ.length := by rw [e4.1, wipe_length]
    refine ⟨hw.trans hww, fun Y bY => ?_⟩
    have YK : C.K = Y.K := by obtain ⟨_, _, _, _, _, rfl⟩ := bY.is; exact hK
    refine ht Y bY t xs[i] C F3 H3 (some (.ref D) :: (σx ++ σs)) (.st none (List β) (ls Sb) acc :: (ex ++ es)) σ4 _ ω _ YK lenp h4 hk2 fun bb p1 F5 H5 hk5 h5 => ?_
    cases bb with
    | false =>
      rw [if_neg Bool.false_ne_true] at hk5 ⊢
      refine ⟨acc, tf t xs[i] p1, F5, ?_, hk5⟩
      have h6 := ER.subF (σs := some (.ref D) :: (σx ++ σs)) h5 (hf t xs[i] p1)
      exact unlike (σp := [some (.ref D)]) (ep := [.st none (List β) (ls Sb) acc]) rfl hl4 (hw.trans hww) (by simpa [List.append_assoc] using h6)
    | true =>
      rw [if_pos rfl] at hk5 ⊢
      intro Y bY
      have YK : C.K = Y.K := by obtain ⟨_, _, _, _, _, rfl⟩ := bY.is; exact hK
      refine he Y bY t xs[i] p1 C F5 H5 (some (.ref D) :: (σx ++ σs)) (.st none (List β) (ls Sb) acc :: (ex ++ es)) σ4 _ ω _ YK lenp h5 hk5 fun y p2 u F6 H6 hk6 h6 => ?_
      have h7 : ER C F6 H6 (some u :: some (.ref D) :: (σx ++ (σs ++ σ4))) (.st none β Sb y :: .st none (List β) (ls Sb) acc :: (ex ++ (es ++ eE t xs[i] p1 p2))) := by simpa [List.append_assoc] using h6
      obtain ⟨hc, hk6⟩ := ck_some hk6
      obtain ⟨v', fp', v0, fq, e2, e3, r1, r2, nd, ow, fin⟩ := h7.absorb (i := 0) (w := none) (τ := List β) (S := ls Sb) (x := acc) rfl
      simp at e2 e3; subst e2; subst e3
      obtain ⟨q1, vs, fps, e4', hq, ra, rfl⟩ := r1
      cases e4'
      have hlen := ra.length
      have hc' := of_decide_eq_true hc
      refine ⟨vs, hq, by rw [SZ_eq]; omega, acc ++ [y], tn t xs[i] p1 p2, F6, ?_, hk6⟩
      have nm : D ∉ fps ++ fq := by
        have : (D :: (fps ++ fq)).Nodup := by simpa using nd
        exact (List.nodup_cons.mp this).1
      have fin' := fin (List β) (ls Sb) (acc ++ [y]) (upd H6 D (.lst (vs ++ [u]))) (D :: (fps ++ fq)) (fun a na _ => upd_ne fun z => na (by rw [z]; simp)) (fun a m => by
        by_cases z : a = D
        · subst z; rw [upd_same]; exact fun z => by cases z
        · rw [upd_ne z]; exact m) ⟨D, vs ++ [u], fps ++ fq, rfl, upd_same, RelAll.imp (fun fr' v' x' s q => Sb.frame (fun a m => upd_ne fun z => nm (z ▸ s a m)) q) (ra.app r2), rfl⟩ (by simpa using nd) (fun a m => by
        refine ⟨?_, .inl (by simpa using m)⟩
        by_cases z : a = D
        · subst z; rw [upd_same]; exact fun z => by cases z
        · rw [upd_ne z]; exact (ow a (by simpa using m)).2.2)
      have h8 : ER C F6 (upd H6 D (.lst (vs ++ [u]))) ((some (.ref D) :: (σx ++ σs)) ++ σ4) ((.st none (List β) (ls Sb) (acc ++ [y]) :: (ex ++ es)) ++ eE t xs[i] p1 p2) := by simpa [List.append_assoc] using fin'
      have h9 := h8.subF (hn t xs[i] p1 p2)
      exact unlike (σp := [some (.ref D)]) (ep := [.st none (List β) (ls Sb) (acc ++ [y])]) rfl hl4 (hw.trans hww) (by simpa [List.append_assoc] using h9)
  · have e : i = xs.length := by omega
    subst e
    refine .inl ⟨y2 (by simp), q acc t (.ref D) F2 H2 (by simpa [compO] using hk2) ?_⟩
    have h3 : ER C F2 H2 (σx ++ some (.ref D) :: (σs ++ σ)) (ex ++ .st none (List β) (ls Sb) acc :: (es ++ envT t)) := ER.unrot h2 hy.len
    exact h3.popN hy.len
end
end Z

set_option Elab.async false
set_option linter.all false
set_option maxRecDepth 100000
namespace Z
open PySem PySem.Spec PyProof.Rows L2

section
variable {X : Cx} {Ω : Type} {env : Env} {nm : Str} {pos spos np : Pos} {a b c e elt tg iter : Expr} {ifs : List Expr} {P P1 P2 T : Type} {τ τ1 τ2 α β : Type} {S : Stor τ} {Sa : Stor α} {Sb : Stor β} {E : Enc τ} {e' : P → Env} {scope : Scope} {own : List (Str × Nat)} {ix : List Nat}
/-- [elt for tg in iter if ..] -/
theorem lx_lc {envT : T → Env} {envX : T → α → Env} {eT : T → α → P1 → Env} {eE : T → α → P1 → P2 → Env} {f : (List α → P → Option Ω) → Option Ω} {ft : T → α → (Bool → P1 → Option Ω) → Option Ω} {fe : T → α → P1 → (β → P2 → Option Ω) → Option Ω}
    (hc : X.calm = true) (hN : X.N.Nodup) (ok : BlkOk X.N X.env.scope scope own)
    (hi : LI X env tg iter Sa e' f) (s0 : P → T) (h0 : ∀ p, Sub (e' p) (envT (s0 p))) (hu : ∀ (t : T) (i : Nat) (s : Slot), i ∈ own.map (·.2) → (envT t)[i]? = some s → s = Slot.un)
    (hg : ∀ (s : Shared) (H : Hp) (C : Addr) (cl : List (Str × Addr)) (fp : List Addr) t, LG (X.blk s H scope (compEnvC scope cl C X.env) fp) (own.map (·.2)) (envT t) tg Sa (envX t)) (ht : ∀ (s : Shared) (H : Hp) (C : Addr) (cl : List (Str × Addr)) (fp : List Addr) t x, LTl (X.blk s H scope (compEnvC scope cl C X.env) fp) (envX t x) ifs (eT t x) (ft t x)) (he : ∀ (s : Shared) (H : Hp) (C : Addr) (cl : List (Str × Addr)) (fp : List Addr) t x p, LX (X.blk s H scope (compEnvC scope cl C X.env) fp) (eT t x p) elt Sb (eE t x p) (fe t x p))
    (tn : T → α → P1 → P2 → T) (hn : ∀ t x p q, Sub (eE t x p q) (envT (tn t x p q))) (tf : T → α → P1 → T) (hf : ∀ t x p, Sub (eT t x p) (envT (tf t x p)))
    (hs : ∀ x, foldedSetIterable iter X.env x = pure x := by intro _; rfl) :
    LX X env (.ListComp elt [⟨tg, iter, ifs, 0⟩] scope pos) (ls Sb) envT (fun k => f fun xs p => compO xs (s0 p) (fun x t kc => ft t x fun b p1 => if b = true then fe t x p1 fun y p2 => kc (some y) (tn t x p1 p2) else kc none (tf t x p1)) [] k) :=
  fun C F H σs es σ k ω Q hK hl h hk q => tE.of X (pe_lc hc hN (piC X) ok (fun s H C cl fp => ⟨fun pins s' σ H' v u Q I r h => h _ ⟨s, H, C, cl, fp, rfl⟩ pins s' u I r⟩) (fun s H C cl fp => ⟨fun pins s' σ H' Q I h => h _ ⟨s, H, C, cl, fp, rfl⟩ pins s' I⟩) (fun s H C cl fp => ⟨fun pins s' σ H' Q I h => h _ ⟨s, H, C, cl, fp, rfl⟩ pins s' I⟩) hs)
    (lc_run hi s0 h0 hu (fun Y bY => by obtain ⟨s, H, C, cl, fp, rfl⟩ := bY.is; exact hg s H C cl fp) (fun Y bY => by obtain ⟨s, H, C, cl, fp, rfl⟩ := bY.is; exact ht s H C cl fp) (fun Y bY => by obtain ⟨s, H, C, cl, fp, rfl⟩ := bY.is; exact he s H C cl fp) tn hn tf hf hK hl h hk q)
/-- y = [..], y a local of the def, on one line -/
theorem lb_setLc {R I J : Type} {SR : Stor R} {envR : I → Env} {kr : R → I → Option Ω} {bk ct : Lp Ω} {rest : List Stmt} {envJ : J → Env} {fr : List β → T → (J → Option Ω) → Option Ω} {py : Pos}
    {envT : T → Env} {envX : T → α → Env} {eT : T → α → P1 → Env} {eE : T → α → P1 → P2 → Env} {f : (List α → P → Option Ω) → Option Ω} {ft : T → α → (Bool → P1 → Option Ω) → Option Ω} {fe : T → α → P1 → (β → P2 → Option Ω) → Option Ω}
    (hc : X.calm = true) (hN : X.N.Nodup) (ok : BlkOk X.N X.env.scope scope own) (i : Nat)
    (hi : LI X env tg iter Sa e' f) (s0 : P → T) (h0 : ∀ p, Sub (e' p) (envT (s0 p))) (hu : ∀ (t : T) (i : Nat) (s : Slot), i ∈ own.map (·.2) → (envT t)[i]? = some s → s = Slot.un)
    (hg : ∀ (s : Shared) (H : Hp) (C : Addr) (cl : List (Str × Addr)) (fp : List Addr) t, LG (X.blk s H scope (compEnvC scope cl C X.env) fp) (own.map (·.2)) (envT t) tg Sa (envX t)) (ht : ∀ (s : Shared) (H : Hp) (C : Addr) (cl : List (Str × Addr)) (fp : List Addr) t x, LTl (X.blk s H scope (compEnvC scope cl C X.env) fp) (envX t x) ifs (eT t x) (ft t x)) (he : ∀ (s : Shared) (H : Hp) (C : Addr) (cl : List (Str × Addr)) (fp : List Addr) t x p, LX (X.blk s H scope (compEnvC scope cl C X.env) fp) (eT t x p) elt Sb (eE t x p) (fe t x p))
    (tn : T → α → P1 → P2 → T) (hn : ∀ t x p q, Sub (eE t x p q) (envT (tn t x p q))) (tf : T → α → P1 → T) (hf : ∀ t x p, Sub (eT t x p) (envT (tf t x p)))
    (hr : ∀ ys t, LB X SR envR kr bk ct ((envT t).set i (.st none (List β) (ls Sb) ys)) rest envJ (fr ys t)) (hsw : swapsWith (.ListComp elt [⟨tg, iter, ifs, 0⟩] scope pos) (some (.Name nm py)) spos.line X.env = pure true) (hlt : ∀ t, i < (envT t).length := by exact (fun _ => Nat.lt_of_sub_eq_succ rfl)) (hy : X.N[i]? = some nm := by rfl) (hyl : X.env.scope.names.lookup nm = some .local := by rfl)
    (hs : ∀ x, foldedSetIterable iter X.env x = pure x := by intro _; rfl) :
    LB X SR envR kr bk ct env (.Assign [.Name nm py] (.ListComp elt [⟨tg, iter, ifs, 0⟩] scope pos) spos :: rest) envJ
      (fun kn => f fun xs p => compO xs (s0 p) (fun x t kc => ft t x fun b p1 => if b = true then fe t x p1 fun y p2 => kc (some y) (tn t x p1 p2) else kc none (tf t x p1)) [] fun ys t => fr ys t kn) :=
  fun C F H σs es σ kn ω D hK hl h hk qn qb qc qr => tSs.of X (pss_cons (ps_setLc (g := fun v σ H Q => ∀ Y, Blk X scope Y → tG Y tg v σ H Q) (tt := fun σ H Q => ∀ Y, Blk X scope Y → tTl Y ifs σ H Q) (te := fun σ H Q => ∀ Y, Blk X scope Y → tE Y elt σ H Q) hc hN hy hyl hsw (piC X) ok (fun s H C cl fp => ⟨fun pins s' σ H' v u Q I r h => h _ ⟨s, H, C, cl, fp, rfl⟩ pins s' u I r⟩) (fun s H C cl fp => ⟨fun pins s' σ H' Q I h => h _ ⟨s, H, C, cl, fp, rfl⟩ pins s' I⟩) (fun s H C cl fp => ⟨fun pins s' σ H' Q I h => h _ ⟨s, H, C, cl, fp, rfl⟩ pins s' I⟩) hs) (pssC X))
    (lc_run hi s0 h0 hu (fun Y bY => by obtain ⟨s, H, C, cl, fp, rfl⟩ := bY.is; exact hg s H C cl fp) (fun Y bY => by obtain ⟨s, H, C, cl, fp, rfl⟩ := bY.is; exact ht s H C cl fp) (fun Y bY => by obtain ⟨s, H, C, cl, fp, rfl⟩ := bY.is; exact he s H C cl fp) tn hn tf hf hK hl h hk fun ys t v F' H' hk' h' => hr ys t C F' H' σs es (σ.set i (some v)) kn ω D hK hl (h'.asg hl (hlt t)) hk' qn qb qc qr)

/-! ### built-ins over one thing -/
/-- f(e): what comes back is told by data -/
theorem lx_b1 {G : Env → Prop} {id : String} {r : List V → Hp → VK → Prop} {E : Enc β} {g : τ → Option β} {f : (τ → P → Option Ω) → Option Ω} (hcall : CallR X (.builtin id) r) (hm : X.mg nm = none) (hv : bootBuiltins nm = some (.builtin id)) (ha : LO X G env a S e' f) (hG : ∀ p, G (e' p))
    (hr : ∀ K F H fp v x y (Q : VK), K = X.K → Same F H → g x = some y → S.rel K F H fp v x → (∀ u, Rep K F u (E.enc y) → Q u H) → r [v] H Q)
    (hg : Gl X nm := by rfl) (hn : nm ≠ "__name__" := by decide) (hdb : (nm == ("__debug__" : Str)) = false := by decide) (he : starEach (a :: []) X.env = (false, eval a X.env) :: starEach [] X.env := by rfl) (hpl : (backTo pos (starEach [] X.env)).any (·.1) = false := by rfl) :
    LX X env (.Call (.Name nm np) [a] [] pos) (it E) e' (fun k => f fun x p => (g x).bind fun y => k y p) :=
  fun C F H σs es σ k ω Q hK hl h hk q => tE.of X (pe_callB hcall hg hm hv (pa_cons (peC X) pa_nil he) hn hdb he hpl) (lo_run ha hG hK hl h hk fun x p v F' H' fp hk' h' rr => by
    obtain ⟨y, hy, hk'⟩ := bind_some hk'
    exact hr C.K F' H' fp v x y Q hK h'.sF hy rr fun u hu => q y p u F' H' hk' (h'.pushSh hu))
/-- .. that always comes back -/
theorem lx_b1t {G : Env → Prop} {id : String} {r : List V → Hp → VK → Prop} {E : Enc β} {g : τ → β} {f : (τ → P → Option Ω) → Option Ω} (hcall : CallR X (.builtin id) r) (hm : X.mg nm = none) (hv : bootBuiltins nm = some (.builtin id)) (ha : LO X G env a S e' f) (hG : ∀ p, G (e' p))
    (hr : ∀ K F H fp v x (Q : VK), K = X.K → Same F H → S.rel K F H fp v x → (∀ u, Rep K F u (E.enc (g x)) → Q u H) → r [v] H Q)
    (hg : Gl X nm := by rfl) (hn : nm ≠ "__name__" := by decide) (hdb : (nm == ("__debug__" : Str)) = false := by decide) (he : starEach (a :: []) X.env = (false, eval a X.env) :: starEach [] X.env := by rfl) (hpl : (backTo pos (starEach [] X.env)).any (·.1) = false := by rfl) :
    LX X env (.Call (.Name nm np) [a] [] pos) (it E) e' (fun k => f fun x p => k (g x) p) :=
  fun C F H σs es σ k ω Q hK hl h hk q => tE.of X (pe_callB hcall hg hm hv (pa_cons (peC X) pa_nil he) hn hdb he hpl) (lo_run ha hG hK hl h hk fun x p v F' H' fp hk' h' rr =>
    hr C.K F' H' fp v x Q hK h'.sF rr fun u hu => q (g x) p u F' H' hk' (h'.pushSh hu))
/-- .. of a type -/
theorem lx_y1t {G : Env → Prop} {Ty : String} {r : List V → Hp → VK → Prop} {E : Enc β} {g : τ → β} {f : (τ → P → Option Ω) → Option Ω} (hcall : CallR X (.type Ty) r) (hm : X.mg nm = none) (hv : bootBuiltins nm = some (.type Ty)) (ha : LO X G env a S e' f) (hG : ∀ p, G (e' p))
    (hr : ∀ K F H fp v x (Q : VK), K = X.K → Same F H → S.rel K F H fp v x → (∀ u, Rep K F u (E.enc (g x)) → Q u H) → r [v] H Q)
    (hg : Gl X nm := by rfl) (hn : nm ≠ "__name__" := by decide) (hdb : (nm == ("__debug__" : Str)) = false := by decide) (he : starEach (a :: []) X.env = (false, eval a X.env) :: starEach [] X.env := by rfl) (hpl : (backTo pos (starEach [] X.env)).any (·.1) = false := by rfl) :
    LX X env (.Call (.Name nm np) [a] [] pos) (it E) e' (fun k => f fun x p => k (g x) p) :=
  fun C F H σs es σ k ω Q hK hl h hk q => tE.of X (pe_callTy hcall hg hm hv (pa_cons (peC X) pa_nil he) hn hdb he hpl) (lo_run ha hG hK hl h hk fun x p v F' H' fp hk' h' rr =>
    hr C.K F' H' fp v x Q hK h'.sF rr fun u hu => q (g x) p u F' H' hk' (h'.pushSh hu))
/-- .. that makes a new list of shared things -/
theorem lx_b1n {G : Env → Prop} {id : String} {r : List V → Hp → VK → Prop} {E : Enc β} {g : τ → Option (List β)} {f : (τ → P → Option Ω) → Option Ω} (hcall : CallR X (.builtin id) r) (hm : X.mg nm = none) (hv : bootBuiltins nm = some (.builtin id)) (ha : LO X G env a S e' f) (hG : ∀ p, G (e' p))
    (hr : ∀ K F H fp v x y (Q : VK), K = X.K → Same F H → g x = some y → S.rel K F H fp v x → (∀ t vs, H t = none → RepAll K F vs (y.map E.enc) → Q (.ref t) (upd H t (.lst vs))) → r [v] H Q)
    (hg : Gl X nm := by rfl) (hn : nm ≠ "__name__" := by decide) (hdb : (nm == ("__debug__" : Str)) = false := by decide) (he : starEach (a :: []) X.env = (false, eval a X.env) :: starEach [] X.env := by rfl) (hpl : (backTo pos (starEach [] X.env)).any (·.1) = false := by rfl) :
    LX X env (.Call (.Name nm np) [a] [] pos) (ls (it E)) e' (fun k => f fun x p => (g x).bind fun y => k y p) :=
  fun C F H σs es σ k ω Q hK hl h hk q => tE.of X (pe_callB hcall hg hm hv (pa_cons (peC X) pa_nil he) hn hdb he hpl) (lo_run ha hG hK hl h hk fun x p v F' H' fp hk' h' rr => by
    obtain ⟨y, hy, hk'⟩ := bind_some hk'
    exact hr C.K F' H' fp v x y Q hK h'.sF hy rr fun t vs nt hu => q y p (.ref t) F' _ hk' (h'.newOw nt ⟨t, vs, [], rfl, upd_same, hu.zero, rfl⟩))
theorem lx_y1n {G : Env → Prop} {Ty : String} {r : List V → Hp → VK → Prop} {E : Enc β} {g : τ → List β} {f : (τ → P → Option Ω) → Option Ω} (hcall : CallR X (.type Ty) r) (hm : X.mg nm = none) (hv : bootBuiltins nm = some (.type Ty)) (ha : LO X G env a S e' f) (hG : ∀ p, G (e' p))
    (hr : ∀ K F H fp v x (Q : VK), K = X.K → Same F H → S.rel K F H fp v x → (∀ t vs, H t = none → RepAll K F vs ((g x).map E.enc) → Q (.ref t) (upd H t (.lst vs))) → r [v] H Q)
    (hg : Gl X nm := by rfl) (hn : nm ≠ "__name__" := by decide) (hdb : (nm == ("__debug__" : Str)) = false := by decide) (he : starEach (a :: []) X.env = (false, eval a X.env) :: starEach [] X.env := by rfl) (hpl : (backTo pos (starEach [] X.env)).any (·.1) = false := by rfl) :
    LX X env (.Call (.Name nm np) [a] [] pos) (ls (it E)) e' (fun k => f fun x p => k (g x) p) :=
  fun C F H σs es σ k ω Q hK hl h hk q => tE.of X (pe_callTy hcall hg hm hv (pa_cons (peC X) pa_nil he) hn hdb he hpl) (lo_run ha hG hK hl h hk fun x p v F' H' fp hk' h' rr =>
    hr C.K F' H' fp v x Q hK h'.sF rr fun t vs nt hu => q (g x) p (.ref t) F' _ hk' (h'.newOw nt ⟨t, vs, [], rfl, upd_same, hu.zero, rfl⟩))
/-- f(a, b) of two ints -/
theorem lx_b2I {id : String} {r : List V → Hp → VK → Prop} {g : Int → Int → Int} {e1 : P1 → Env} {e2 : P1 → P2 → Env} {fa : (Int → P1 → Option Ω) → Option Ω} {fb : P1 → (Int → P2 → Option Ω) → Option Ω} (hcall : CallR X (.builtin id) r) (hr : ∀ i j H (Q : VK), Q (.int (g i j)) H → r [.int i, .int j] H Q) (hm : X.mg nm = none) (hv : bootBuiltins nm = some (.builtin id))
    (ha : LX X env a (it eI) e1 fa) (hb : ∀ p1, LX X (e1 p1) b (it eI) (e2 p1) (fb p1)) (hg : Gl X nm := by rfl) (hn : nm ≠ "__name__" := by decide) (hdb : (nm == ("__debug__" : Str)) = false := by decide)
    (he : starEach [a, b] X.env = (false, eval a X.env) :: starEach [b] X.env := by rfl) (he2 : starEach [b] X.env = (false, eval b X.env) :: starEach [] X.env := by rfl) (hpl : (backTo pos (starEach [b] X.env)).any (·.1) = false := by rfl) :
    LX X env (.Call (.Name nm np) [a, b] [] pos) (it eI) (fun p : P1 × P2 => e2 p.1 p.2) (fun k => fa fun x p1 => fb p1 fun y p2 => k (g x y) (p1, p2)) :=
  fun C F H σs es σ k ω Q hK hl h hk q => tE.of X (pe_callB hcall hg hm hv (pa_cons (peC X) (pa_cons (peC X) pa_nil he2) he) hn hdb he hpl) (op2_run (lo_of ha) (fun p1 => lo_of (hb p1)) (fun _ _ => trivial) (fun _ _ => trivial) hK hl h hk
    fun x p1 y p2 v u F' H' fp fq hk' h' r1 r2 => by
      obtain ⟨_, r1⟩ := r1
      obtain ⟨_, r2⟩ := r2
      cases r1; cases r2
      exact hr x y H' Q (q _ (p1, p2) _ F' H' hk' (h'.pushSh (.int _))))
section
variable {G : Env → Prop} {fI : (Int → P → Option Ω) → Option Ω} {f : (τ → P → Option Ω) → Option Ω} {g : τ → List α} {Ea : Enc α}
theorem lx_abs (hm : X.mg "abs" = none) (ha : LX X env a (it eI) e' fI) (hg : Gl X "abs" := by rfl) (he : starEach (a :: []) X.env = (false, eval a X.env) :: starEach [] X.env := by rfl) (hpl : (backTo pos (starEach [] X.env)).any (·.1) = false := by rfl) :
    LX X env (.Call (.Name "abs" np) [a] [] pos) (it eI) e' (fun k => fI fun x p => k (if x < 0 then -x else x) p) :=
  lx_b1t (E := eI) (g := fun x : Int => if x < 0 then -x else x) call_abs hm boot_abs (lo_of ha) (fun _ => trivial) (fun K F H fp v x Q _ _ r q => by obtain ⟨_, r⟩ := r; cases r; exact ⟨x, rfl, q _ (.int _)⟩) hg (by decide) (by decide) he hpl
theorem lx_int1 (hm : X.mg "int" = none) (ha : LX X env a (it eI) e' fI) (hg : Gl X "int" := by rfl) (he : starEach (a :: []) X.env = (false, eval a X.env) :: starEach [] X.env := by rfl) (hpl : (backTo pos (starEach [] X.env)).any (·.1) = false := by rfl) :
    LX X env (.Call (.Name "int" np) [a] [] pos) (it eI) e' (fun k => fI fun x p => k x p) :=
  lx_y1t (E := eI) (g := fun x : Int => x) call_int1 hm PyProof.Rows.boot_int (lo_of ha) (fun _ => trivial) (fun K F H fp v x Q _ _ r q => by obtain ⟨_, r⟩ := r; cases r; exact .inl ⟨x, rfl, q _ (.int _)⟩) hg (by decide) (by decide) he hpl
theorem lx_intB {fB : (Bool → P → Option Ω) → Option Ω} (hm : X.mg "int" = none) (ha : LX X env a (it eB) e' fB) (hg : Gl X "int" := by rfl) (he : starEach (a :: []) X.env = (false, eval a X.env) :: starEach [] X.env := by rfl) (hpl : (backTo pos (starEach [] X.env)).any (·.1) = false := by rfl) :
    LX X env (.Call (.Name "int" np) [a] [] pos) (it eI) e' (fun k => fB fun x p => k (if x = true then 1 else 0) p) :=
  lx_y1t (E := eI) (g := fun x : Bool => if x = true then (1 : Int) else 0) call_int1 hm PyProof.Rows.boot_int (lo_of ha) (fun _ => trivial) (fun K F H fp v x Q _ _ r q => by obtain ⟨_, r⟩ := r; cases r; exact .inr ⟨x, rfl, q _ (.int _)⟩) hg (by decide) (by decide) he hpl
theorem lx_max2 {e1 : P1 → Env} {e2 : P1 → P2 → Env} {fa : (Int → P1 → Option Ω) → Option Ω} {fb : P1 → (Int → P2 → Option Ω) → Option Ω} (hc : X.calm = true) (hm : X.mg "max" = none) (ha : LX X env a (it eI) e1 fa) (hb : ∀ p1, LX X (e1 p1) b (it eI) (e2 p1) (fb p1)) (hg : Gl X "max" := by rfl)
    (he : starEach [a, b] X.env = (false, eval a X.env) :: starEach [b] X.env := by rfl) (he2 : starEach [b] X.env = (false, eval b X.env) :: starEach [] X.env := by rfl) (hpl : (backTo pos (starEach [b] X.env)).any (·.1) = false := by rfl) :
    LX X env (.Call (.Name "max" np) [a, b] [] pos) (it eI) (fun p : P1 × P2 => e2 p.1 p.2) (fun k => fa fun x p1 => fb p1 fun y p2 => k (max x y) (p1, p2)) :=
  lx_b2I (call_max2 hc) (fun i j H Q q => ⟨i, j, rfl, by rw [show (if j > i then j else i) = max i j by omega]; exact q⟩) hm boot_max ha hb hg (by decide) (by decide) he he2 hpl
theorem lx_min2 {e1 : P1 → Env} {e2 : P1 → P2 → Env} {fa : (Int → P1 → Option Ω) → Option Ω} {fb : P1 → (Int → P2 → Option Ω) → Option Ω} (hc : X.calm = true) (hm : X.mg "min" = none) (ha : LX X env a (it eI) e1 fa) (hb : ∀ p1, LX X (e1 p1) b (it eI) (e2 p1) (fb p1)) (hg : Gl X "min" := by rfl)
    (he : starEach [a, b] X.env = (false, eval a X.env) :: starEach [b] X.env := by rfl) (he2 : starEach [b] X.env = (false, eval b X.env) :: starEach [] X.env := by rfl) (hpl : (backTo pos (starEach [b] X.env)).any (·.1) = false := by rfl) :
    LX X env (.Call (.Name "min" np) [a, b] [] pos) (it eI) (fun p : P1 × P2 => e2 p.1 p.2) (fun k => fa fun x p1 => fb p1 fun y p2 => k (min x y) (p1, p2)) :=
  lx_b2I (call_min2 hc) (fun i j H Q q => ⟨i, j, rfl, by rw [show (if j < i then j else i) = min i j by omega]; exact q⟩) hm boot_min ha hb hg (by decide) (by decide) he he2 hpl
theorem lx_len (hv : LVw S (it Ea) g) (hm : X.mg "len" = none) (ha : LO X G env a S e' f) (hG : ∀ p, G (e' p)) (hg : Gl X "len" := by rfl) (he : starEach (a :: []) X.env = (false, eval a X.env) :: starEach [] X.env := by rfl) (hpl : (backTo pos (starEach [] X.env)).any (·.1) = false := by rfl) :
    LX X env (.Call (.Name "len" np) [a] [] pos) (it eI) e' (fun k => f fun x p => k ((g x).length : Int) p) :=
  lx_b1t (E := eI) (g := fun x : τ => ((g x).length : Int)) call_len_seq hm PySem.boot_len ha hG (fun K F H fp v x Q hK s r q => by
    obtain ⟨p, vs, fps, rfl, h1, h2⟩ := hv.view s r
    have := h2.length
    exact ⟨p, vs, rfl, .inl (by rw [← hK]; exact h1), by rw [this]; exact q _ (.int _)⟩) hg (by decide) (by decide) he hpl
theorem lx_lenO {Sx : Stor α} (hv : LVw S Sx g) (hm : X.mg "len" = none) (ha : LO X G env a S e' f) (hG : ∀ p, G (e' p)) (hg : Gl X "len" := by rfl) (he : starEach (a :: []) X.env = (false, eval a X.env) :: starEach [] X.env := by rfl) (hpl : (backTo pos (starEach [] X.env)).any (·.1) = false := by rfl) :
    LX X env (.Call (.Name "len" np) [a] [] pos) (it eI) e' (fun k => f fun x p => k ((g x).length : Int) p) :=
  lx_b1t (E := eI) (g := fun x : τ => ((g x).length : Int)) call_len_seq hm PySem.boot_len ha hG (fun K F H fp v x Q hK s r q => by
    obtain ⟨p, vs, fps, rfl, h1, h2⟩ := hv.view s r
    have := h2.length
    exact ⟨p, vs, rfl, .inl (by rw [← hK]; exact h1), by rw [this]; exact q _ (.int _)⟩) hg (by decide) (by decide) he hpl
theorem lx_lenV (hv : TVw S (it Ea) g) (hm : X.mg "len" = none) (ha : LO X G env a S e' f) (hG : ∀ p, G (e' p)) (hg : Gl X "len" := by rfl) (he : starEach (a :: []) X.env = (false, eval a X.env) :: starEach [] X.env := by rfl) (hpl : (backTo pos (starEach [] X.env)).any (·.1) = false := by rfl) :
    LX X env (.Call (.Name "len" np) [a] [] pos) (it eI) e' (fun k => f fun x p => k ((g x).length : Int) p) :=
  lx_b1t (E := eI) (g := fun x : τ => ((g x).length : Int)) call_len_seq hm PySem.boot_len ha hG (fun K F H fp v x Q hK s r q => by
    obtain ⟨p, vs, fps, rfl, h1, h2⟩ := hv.view s r
    have := h2.length
    exact ⟨p, vs, rfl, .inr (by rw [← hK]; exact h1), by rw [this]; exact q _ (.int _)⟩) hg (by decide) (by decide) he hpl
theorem RepAll.ints {K : Fg} {F : Hp} : ∀ {vs : List V} {ns : List Int}, RepAll K F vs (ns.map eI.enc) → vs = ns.map V.int
  | [], [], _ => rfl
  | [], _ :: _, h => by cases h
  | _ :: _, [], h => by cases h
  | v :: vs, n :: ns, h => by
    cases h with
    | cons h1 h2 =>
      have h1' : Rep K F v (.int n) := h1
      cases h1'
      rw [RepAll.ints h2]; rfl
theorem RepAll.ofInts {K : Fg} {F : Hp} : ∀ (ns : List Int), RepAll K F (ns.map V.int) (ns.map eI.enc)
  | [] => .nil
  | n :: ns => .cons (.int n) (RepAll.ofInts ns)
theorem lx_sum {g : τ → List Int} (hc : X.calm = true) (hv : LVw S (it eI) g) (hm : X.mg "sum" = none) (ha : LO X G env a S e' f) (hG : ∀ p, G (e' p)) (hg : Gl X "sum" := by rfl) (he : starEach (a :: []) X.env = (false, eval a X.env) :: starEach [] X.env := by rfl) (hpl : (backTo pos (starEach [] X.env)).any (·.1) = false := by rfl) :
    LX X env (.Call (.Name "sum" np) [a] [] pos) (it eI) e' (fun k => f fun x p => k (g x).sum p) :=
  lx_b1t (E := eI) (g := fun x : τ => (g x).sum) (cr_sum hc) hm boot_sum ha hG (fun K F H fp v x Q hK s r q => by
    obtain ⟨p, vs, fps, rfl, h1, h2⟩ := hv.view s r
    have := h2.zero.2.ints
    subst this
    exact ⟨p, g x, rfl, by rw [← hK]; exact h1, q _ (.int _)⟩) hg (by decide) (by decide) he hpl
/-- the least, the greatest of a list of ints -/
def minI : List Int → Option Int
  | [] => none
  | x :: xs => some (xs.foldl min x)
def maxI : List Int → Option Int
  | [] => none
  | x :: xs => some (xs.foldl max x)
theorem foldl_min_le : ∀ (xs : List Int) (x : Int), xs.foldl min x ≤ x ∧ ∀ y ∈ xs, xs.foldl min x ≤ y
  | [], x => ⟨Int.le_refl x, fun _ m => nomatch m⟩
  | z :: xs, x => by
    obtain ⟨h1, h2⟩ := foldl_min_le xs (min x z)
    rw [List.foldl_cons]
    refine ⟨by omega, fun y m => ?_⟩
    rcases List.mem_cons.mp m with rfl | m
    · omega
    · exact h2 y m
theorem foldl_min_mem : ∀ (xs : List Int) (x : Int), xs.foldl min x = x ∨ xs.foldl min x ∈ xs
  | [], x => .inl rfl
  | z :: xs, x => by
    rw [List.foldl_cons]
    rcases foldl_min_mem xs (min x z) with h | h
    · by_cases c : x ≤ z
      · left; rw [h]; omega
      · right; rw [h, show min x z = z by omega]; exact List.mem_cons_self
    · exact .inr (List.mem_cons_of_mem _ h)
theorem foldl_max_le : ∀ (xs : List Int) (x : Int), x ≤ xs.foldl max x ∧ ∀ y ∈ xs, y ≤ xs.foldl max x
  | [], x => ⟨Int.le_refl x, fun _ m => nomatch m⟩
  | z :: xs, x => by
    obtain ⟨h1, h2⟩ := foldl_max_le xs (max x z)
    rw [List.foldl_cons]
    refine ⟨by omega, fun y m => ?_⟩
    rcases List.mem_cons.mp m with rfl | m
    · omega
    · exact h2 y m
theorem foldl_max_mem : ∀ (xs : List Int) (x : Int), xs.foldl max x = x ∨ xs.foldl max x ∈ xs
  | [], x => .inl rfl
  | z :: xs, x => by
    rw [List.foldl_cons]
    rcases foldl_max_mem xs (max x z) with h | h
    · by_cases c : z ≤ x
      · left; rw [h]; omega
      · right; rw [h, show max x z = z by omega]; exact List.mem_cons_self
    · exact .inr (List.mem_cons_of_mem _ h)
theorem minI_is {ns : List Int} {y m : Int} (h : minI ns = some y) (hm : m ∈ ns) (hle : ∀ z ∈ ns, m ≤ z) : m = y := by
  cases ns with
  | nil => cases h
  | cons x xs =>
    cases h
    obtain ⟨h1, h2⟩ := foldl_min_le xs x
    have a1 : xs.foldl min x ≤ m := by
      rcases List.mem_cons.mp hm with rfl | q
      · exact h1
      · exact h2 m q
    have a2 : m ≤ xs.foldl min x := by
      rcases foldl_min_mem xs x with q | q
      · rw [q]; exact hle x List.mem_cons_self
      · exact hle _ (List.mem_cons_of_mem _ q)
    omega
theorem maxI_is {ns : List Int} {y m : Int} (h : maxI ns = some y) (hm : m ∈ ns) (hle : ∀ z ∈ ns, z ≤ m) : m = y := by
  cases ns with
  | nil => cases h
  | cons x xs =>
    cases h
    obtain ⟨h1, h2⟩ := foldl_max_le xs x
    have a1 : m ≤ xs.foldl max x := by
      rcases List.mem_cons.mp hm with rfl | q
      · exact h1
      · exact h2 m q
    have a2 : xs.foldl max x ≤ m := by
      rcases foldl_max_mem xs x with q | q
      · rw [q]; exact hle x List.mem_cons_self
      · exact hle _ (List.mem_cons_of_mem _ q)
    omega
theorem lx_minI {g : τ → List Int} (hc : X.calm = true) (hv : LVw S (it eI) g) (hm : X.mg "min" = none) (ha : LO X G env a S e' f) (hG : ∀ p, G (e' p)) (hg : Gl X "min" := by rfl) (he : starEach (a :: []) X.env = (false, eval a X.env) :: starEach [] X.env := by rfl) (hpl : (backTo pos (starEach [] X.env)).any (·.1) = false := by rfl) :
    LX X env (.Call (.Name "min" np) [a] [] pos) (it eI) e' (fun k => f fun x p => (minI (g x)).bind fun y => k y p) :=
  lx_b1 (E := eI) (g := fun x : τ => minI (g x)) (cr_min hc) hm boot_min ha hG (fun K F H fp v x y Q hK s hy r q => by
    obtain ⟨p, vs, fps, rfl, h1, h2⟩ := hv.view s r
    have := h2.zero.2.ints
    subst this
    refine ⟨p, g x, rfl, by rw [← hK]; exact h1, ?_, fun m hmm hle => ?_⟩
    · cases hgx : g x with
      | nil => rw [hgx] at hy; cases hy
      | cons z zs => simp
    · rw [minI_is hy hmm hle]; exact q _ (.int _)) hg (by decide) (by decide) he hpl
theorem lx_maxI {g : τ → List Int} (hc : X.calm = true) (hv : LVw S (it eI) g) (hm : X.mg "max" = none) (ha : LO X G env a S e' f) (hG : ∀ p, G (e' p)) (hg : Gl X "max" := by rfl) (he : starEach (a :: []) X.env = (false, eval a X.env) :: starEach [] X.env := by rfl) (hpl : (backTo pos (starEach [] X.env)).any (·.1) = false := by rfl) :
    LX X env (.Call (.Name "max" np) [a] [] pos) (it eI) e' (fun k => f fun x p => (maxI (g x)).bind fun y => k y p) :=
  lx_b1 (E := eI) (g := fun x : τ => maxI (g x)) (cr_max hc) hm boot_max ha hG (fun K F H fp v x y Q hK s hy r q => by
    obtain ⟨p, vs, fps, rfl, h1, h2⟩ := hv.view s r
    have := h2.zero.2.ints
    subst this
    refine ⟨p, g x, rfl, by rw [← hK]; exact h1, ?_, fun m hmm hle => ?_⟩
    · cases hgx : g x with
      | nil => rw [hgx] at hy; cases hy
      | cons z zs => simp
    · rw [maxI_is hy hmm hle]; exact q _ (.int _)) hg (by decide) (by decide) he hpl
/-- list(xs) -/
theorem lx_listof (hv : LVw S (it Ea) g) (hm : X.mg "list" = none) (ha : LO X G env a S e' f) (hG : ∀ p, G (e' p)) (hg : Gl X "list" := by rfl) (he : starEach (a :: []) X.env = (false, eval a X.env) :: starEach [] X.env := by rfl) (hpl : (backTo pos (starEach [] X.env)).any (·.1) = false := by rfl) :
    LX X env (.Call (.Name "list" np) [a] [] pos) (ls (it Ea)) e' (fun k => f fun x p => k (g x) p) :=
  lx_y1n (E := Ea) (g := g) call_list_of hm PyProof.Rows.boot_list ha hG (fun K F H fp v x Q hK s r q => by
    obtain ⟨p, vs, fps, rfl, h1, h2⟩ := hv.view s r
    exact ⟨p, vs, rfl, .inl (by rw [← hK]; exact h1), fun l hl => q l vs hl h2.zero.2⟩) hg (by decide) (by decide) he hpl
end
end
end Z

set_option Elab.async false
set_option linter.all false
set_option maxRecDepth 100000
namespace Z
open PySem PySem.Spec PyProof.Rows L2

/-! ### kinds of data: depth, equality, order -/
structure Dt {τ : Type} (E : Enc τ) (n : Nat) : Prop where
  lay : ∀ x, (E.enc x).canLay0 = true
  dep : ∀ x, (E.enc x).depth ≤ n
theorem Dt.mono {τ : Type} {E : Enc τ} {n m : Nat} (h : Dt E n) (l : n ≤ m) : Dt E m := ⟨h.lay, fun x => Nat.le_trans (h.dep x) l⟩
theorem canLayAll_of : ∀ {ds : List PyData}, (∀ d ∈ ds, d.canLay0 = true) → PyData.canLayAll0 ds = true
  | [], _ => rfl
  | d :: ds, h => by
    unfold PyData.canLayAll0
    rw [h d List.mem_cons_self, canLayAll_of fun e m => h e (List.mem_cons_of_mem _ m)]; rfl
theorem depthAll_of : ∀ {ds : List PyData} {n : Nat}, (∀ d ∈ ds, d.depth ≤ n) → PyData.depthAll ds ≤ n
  | [], n, _ => by simp [PyData.depthAll]
  | d :: ds, n, h => by
    unfold PyData.depthAll
    have h1 := h d List.mem_cons_self
    have h2 := depthAll_of (ds := ds) (n := n) fun e m => h e (List.mem_cons_of_mem _ m)
    omega
theorem dtI : Dt eI 0 := ⟨fun _ => rfl, fun _ => by simp [eI, PyData.depth]⟩
theorem dtB : Dt eB 0 := ⟨fun _ => rfl, fun _ => by simp [eB, PyData.depth]⟩
theorem dtN : Dt eN 0 := ⟨fun _ => rfl, fun _ => by simp [eN, PyData.depth]⟩
theorem dtL {τ : Type} {E : Enc τ} {n : Nat} (h : Dt E n) : Dt (eL E) (n + 1) := ⟨fun x => by
  show PyData.canLay0 (.list _) = true
  rw [PyData.canLay0]
  exact canLayAll_of fun d m => by obtain ⟨y, _, rfl⟩ := List.mem_map.mp m; exact h.lay y, fun x => by
  show PyData.depth (.list _) ≤ n + 1
  rw [PyData.depth]
  have := depthAll_of (ds := x.map E.enc) (n := n) fun d m => by obtain ⟨y, _, rfl⟩ := List.mem_map.mp m; exact h.dep y
  omega⟩
theorem dtV {τ : Type} {E : Enc τ} {n : Nat} (h : Dt E n) : Dt (eV E) (n + 1) := ⟨fun x => by
  show PyData.canLay0 (.tuple _) = true
  rw [PyData.canLay0]
  exact canLayAll_of fun d m => by obtain ⟨y, _, rfl⟩ := List.mem_map.mp m; exact h.lay y, fun x => by
  show PyData.depth (.tuple _) ≤ n + 1
  rw [PyData.depth]
  have := depthAll_of (ds := x.map E.enc) (n := n) fun d m => by obtain ⟨y, _, rfl⟩ := List.mem_map.mp m; exact h.dep y
  omega⟩
theorem dt_tup {τ : Type} {E : Enc τ} {n : Nat} {ds : τ → List PyData} (he : ∀ x, E.enc x = .tuple (ds x)) (h1 : ∀ x, ∀ d ∈ ds x, d.canLay0 = true) (h2 : ∀ x, ∀ d ∈ ds x, d.depth ≤ n) : Dt E (n + 1) := ⟨fun x => by
  rw [he, PyData.canLay0]; exact canLayAll_of (h1 x), fun x => by
  rw [he, PyData.depth]
  have := depthAll_of (h2 x)
  omega⟩
section
variable {α β γ δ : Type} {A : Enc α} {B : Enc β} {G : Enc γ} {D : Enc δ} {n : Nat}
theorem dtT2 (a : Dt A n) (b : Dt B n) : Dt (eT2 A B) (n + 1) := dt_tup (ds := fun p => [A.enc p.1, B.enc p.2]) (fun _ => rfl) (fun x d m => by simp at m; rcases m with rfl | rfl; exact a.lay _; exact b.lay _) (fun x d m => by simp at m; rcases m with rfl | rfl; exact a.dep _; exact b.dep _)
theorem dtT3 (a : Dt A n) (b : Dt B n) (g : Dt G n) : Dt (eT3 A B G) (n + 1) := dt_tup (ds := fun p => [A.enc p.1, B.enc p.2.1, G.enc p.2.2]) (fun _ => rfl) (fun x d m => by simp at m; rcases m with rfl | rfl | rfl; exact a.lay _; exact b.lay _; exact g.lay _) (fun x d m => by simp at m; rcases m with rfl | rfl | rfl; exact a.dep _; exact b.dep _; exact g.dep _)
theorem dtT4 (a : Dt A n) (b : Dt B n) (g : Dt G n) (d4 : Dt D n) : Dt (eT4 A B G D) (n + 1) := dt_tup (ds := fun p => [A.enc p.1, B.enc p.2.1, G.enc p.2.2.1, D.enc p.2.2.2]) (fun _ => rfl) (fun x d m => by simp at m; rcases m with rfl | rfl | rfl | rfl; exact a.lay _; exact b.lay _; exact g.lay _; exact d4.lay _) (fun x d m => by simp at m; rcases m with rfl | rfl | rfl | rfl; exact a.dep _; exact b.dep _; exact g.dep _; exact d4.dep _)
end
/-- == of this kind is equality -/
structure Ev {τ : Type} [DecidableEq τ] (E : Enc τ) : Prop where
  eq : ∀ x y, PyData.eqv (E.enc x) (E.enc y) = decide (x = y)
theorem evI : Ev eI := ⟨fun x y => by simp [eI, PyData.eqv, Bool.beq_eq_decide_eq]⟩
theorem evB : Ev eB := ⟨fun x y => by simp [eB, PyData.eqv, Bool.beq_eq_decide_eq]⟩
theorem evN : Ev eN := ⟨fun x y => by simp [eN, PyData.eqv]⟩
theorem evS : Ev eS := ⟨fun x y => by simp only [eS, PyData.eqv]; exact Bool.beq_eq_decide_eq x y⟩
theorem eqvAll_map {τ : Type} [DecidableEq τ] {E : Enc τ} (h : Ev E) : ∀ (xs ys : List τ), PyData.eqvAll (xs.map E.enc) (ys.map E.enc) = decide (xs = ys)
  | [], [] => by simp [PyData.eqvAll]
  | [], _ :: _ => by simp [PyData.eqvAll]
  | _ :: _, [] => by simp [PyData.eqvAll]
  | x :: xs, y :: ys => by
    simp only [List.map_cons, PyData.eqvAll, h.eq, eqvAll_map h xs ys, List.cons.injEq, Bool.decide_and]
theorem evL {τ : Type} [DecidableEq τ] {E : Enc τ} (h : Ev E) : Ev (eL E) := ⟨fun x y => by simp only [eL, PyData.eqv]; exact eqvAll_map h x y⟩
theorem evV {τ : Type} [DecidableEq τ] {E : Enc τ} (h : Ev E) : Ev (eV E) := ⟨fun x y => by simp only [eV, PyData.eqv]; exact eqvAll_map h x y⟩
section
variable {α β γ δ : Type} [DecidableEq α] [DecidableEq β] [DecidableEq γ] [DecidableEq δ] {A : Enc α} {B : Enc β} {G : Enc γ} {D : Enc δ}
theorem evT2 (a : Ev A) (b : Ev B) : Ev (eT2 A B) := ⟨fun x y => by
  obtain ⟨x1, x2⟩ := x
  obtain ⟨y1, y2⟩ := y
  simp only [eT2, PyData.eqv, PyData.eqvAll, a.eq, b.eq, Bool.and_true, Prod.mk.injEq, Bool.decide_and]⟩
theorem evT3 (a : Ev A) (b : Ev B) (g : Ev G) : Ev (eT3 A B G) := ⟨fun x y => by
  obtain ⟨x1, x2, x3⟩ := x
  obtain ⟨y1, y2, y3⟩ := y
  simp only [eT3, PyData.eqv, PyData.eqvAll, a.eq, b.eq, g.eq, Bool.and_true, Prod.mk.injEq, Bool.decide_and]⟩
theorem evT4 (a : Ev A) (b : Ev B) (g : Ev G) (d : Ev D) : Ev (eT4 A B G D) := ⟨fun x y => by
  obtain ⟨x1, x2, x3, x4⟩ := x
  obtain ⟨y1, y2, y3, y4⟩ := y
  simp only [eT4, PyData.eqv, PyData.eqvAll, a.eq, b.eq, g.eq, d.eq, Bool.and_true, Prod.mk.injEq, Bool.decide_and]⟩
end
/-- an order: < of this kind -/
structure Od {τ : Type} (E : Enc τ) (lt : τ → τ → Bool) : Prop where
  lt : ∀ x y, PySem.W.dataLt (E.enc x) (E.enc y) = lt x y
  al : ∀ x y, PySem.W.alike (E.enc x) (E.enc y) = true
  nn : ∀ x, E.enc x ≠ .none
def ltI (x y : Int) : Bool := decide (x < y)
theorem odI : Od eI ltI := ⟨fun x y => by
  have h := PySem.W.minD_ints x [y]
  simp only [PySem.W.minD, List.map_cons, List.map_nil, List.foldl_cons, List.foldl_nil] at h
  have h2 := PySem.W.minD_ints y [x]
  simp only [PySem.W.minD, List.map_cons, List.map_nil, List.foldl_cons, List.foldl_nil] at h2
  show PySem.W.dataLt (.int x) (.int y) = _
  unfold ltI
  by_cases c : x < y
  · rw [decide_eq_true c]
    cases e : PySem.W.dataLt (.int x) (.int y) with
    | true => rfl
    | false =>
      rw [e] at h2
      simp at h2; omega
  · rw [decide_eq_false c]
    cases e : PySem.W.dataLt (.int x) (.int y) with
    | false => rfl
    | true =>
      rw [e] at h2
      simp at h2
      by_cases c2 : x = y
      · subst c2
        unfold PySem.W.dataLt at e
        rw [PyProof.Rows.lex_irrefl] at e
        cases e
      · omega, fun _ _ => rfl, fun _ h => by cases h⟩
section
variable {α β γ δ : Type} [DecidableEq α] [DecidableEq β] [DecidableEq γ] {A : Enc α} {B : Enc β} {G : Enc γ} {la : α → α → Bool} {lb : β → β → Bool} {lg : γ → γ → Bool}
theorem lt_cons {x y : PyData} {xs ys : List PyData} (h : PySem.W.alike x y = true) : PySem.W.dataLt (.tuple (x :: xs)) (.tuple (y :: ys)) = if PyData.eqv x y = true then PySem.W.dataLt (.tuple xs) (.tuple ys) else PySem.W.dataLt x y := by
  rw [PySem.W.dataLt_tuple, PySem.W.dataLt_tuple]
  cases e : PyData.eqv x y with
  | true => rw [if_pos rfl]; exact PySem.W.dataLt_all_yes h e
  | false => rw [if_neg Bool.false_ne_true]; exact PySem.W.dataLt_all_no h e
def lt2 (la : α → α → Bool) (lb : β → β → Bool) (x y : α × β) : Bool := if x.1 = y.1 then lb x.2 y.2 else la x.1 y.1
def lt3 (la : α → α → Bool) (lb : β → β → Bool) (lg : γ → γ → Bool) (x y : α × β × γ) : Bool := if x.1 = y.1 then (if x.2.1 = y.2.1 then lg x.2.2 y.2.2 else lb x.2.1 y.2.1) else la x.1 y.1
theorem lt_one {x y : PyData} (h : PySem.W.alike x y = true) : PySem.W.dataLt (.tuple [x]) (.tuple [y]) = PySem.W.dataLt x y := by
  rw [lt_cons h]
  cases e : PyData.eqv x y with
  | false => rw [if_neg Bool.false_ne_true]
  | true =>
    rw [if_pos rfl]
    have := (PySem.W.toks_eqv x y h).1 e
    unfold PySem.W.dataLt
    rw [this, PyProof.Rows.lex_irrefl, PyProof.Rows.lex_irrefl]
theorem odT2 (ea : Ev A) (a : Od A la) (b : Od B lb) : Od (eT2 A B) (lt2 la lb) := ⟨fun x y => by
  obtain ⟨x1, x2⟩ := x
  obtain ⟨y1, y2⟩ := y
  show PySem.W.dataLt (.tuple [A.enc x1, B.enc x2]) (.tuple [A.enc y1, B.enc y2]) = _
  rw [lt_cons (a.al _ _), lt_one (b.al _ _), ea.eq, a.lt, b.lt]
  unfold lt2
  simp only [decide_eq_true_eq], fun x y => by
  obtain ⟨x1, x2⟩ := x
  obtain ⟨y1, y2⟩ := y
  show PySem.W.alike (.tuple [A.enc x1, B.enc x2]) (.tuple [A.enc y1, B.enc y2]) = true
  simp only [PySem.W.alike, PySem.W.alikeAll, a.al, b.al, Bool.and_self], fun _ h => by cases h⟩
theorem odT3 (ea : Ev A) (eb : Ev B) (a : Od A la) (b : Od B lb) (g : Od G lg) : Od (eT3 A B G) (lt3 la lb lg) := ⟨fun x y => by
  obtain ⟨x1, x2, x3⟩ := x
  obtain ⟨y1, y2, y3⟩ := y
  show PySem.W.dataLt (.tuple [A.enc x1, B.enc x2, G.enc x3]) (.tuple [A.enc y1, B.enc y2, G.enc y3]) = _
  rw [lt_cons (a.al _ _), lt_cons (b.al _ _), lt_one (g.al _ _), ea.eq, eb.eq, a.lt, b.lt, g.lt]
  unfold lt3
  simp only [decide_eq_true_eq], fun x y => by
  obtain ⟨x1, x2, x3⟩ := x
  obtain ⟨y1, y2, y3⟩ := y
  show PySem.W.alike (.tuple [A.enc x1, B.enc x2, G.enc x3]) (.tuple [A.enc y1, B.enc y2, G.enc y3]) = true
  simp only [PySem.W.alike, PySem.W.alikeAll, a.al, b.al, g.al, Bool.and_self], fun _ h => by cases h⟩
end

/-! ### data as the layer's rules read them -/
mutual
theorem Rep.dp {K : Fg} {F H : Hp} (s : Same F H) : ∀ {v : V} {d : PyData}, Rep K F v d → d.canLay0 = true → Dp K H v d
  | _, _, .non, _ => .non
  | _, _, .bl b, _ => .bl b
  | _, _, .int i, _ => .int i
  | _, _, .str x, _ => .str x
  | _, _, .lst h r, c => .lst (SqL.of (s _ _ h)) (RepAll.dp s r (by rwa [PyData.canLay0] at c))
  | _, _, .tup h r, c => .tup (same_sqT s h) (RepAll.dp s r (by rwa [PyData.canLay0] at c))
  | _, _, .dK h r, c => by rw [PyData.canLay0] at c; cases c
  | _, _, .dT h r, c => by rw [PyData.canLay0] at c; cases c
theorem RepAll.dp {K : Fg} {F H : Hp} (s : Same F H) : ∀ {vs : List V} {ds : List PyData}, RepAll K F vs ds → PyData.canLayAll0 ds = true → DpAll K H vs ds
  | _, _, .nil, _ => .nil
  | _, _, .cons h r, c => by
    rw [PyData.canLayAll0] at c
    have c' := Bool.and_eq_true_iff.mp c
    exact .cons (Rep.dp s h c'.1) (RepAll.dp s r c'.2)
end
structure Dv {τ : Type} (S : Stor τ) (E : Enc τ) : Prop where
  dp : ∀ {K : Fg} {F H : Hp} {fp : List Addr} {v : V} {x : τ}, Same F H → (E.enc x).canLay0 = true → S.rel K F H fp v x → Dp K H v (E.enc x)
section
variable {τ τ1 τ2 α β : Type} {S : Stor τ} {S1 : Stor τ1} {S2 : Stor τ2} {E : Enc τ} {E1 : Enc τ1} {E2 : Enc τ2}
theorem dv_it : Dv (it E) E := ⟨fun s c r => r.2.dp s c⟩
theorem RelAll.dps {K : Fg} {H : Hp} {R : List Addr → V → τ → Prop} : ∀ {fp : List Addr} {vs : List V} {xs : List τ}, (∀ fq v x, R fq v x → (E.enc x).canLay0 = true → Dp K H v (E.enc x)) → PyData.canLayAll0 (xs.map E.enc) = true → RelAll R fp vs xs → DpAll K H vs (xs.map E.enc)
  | _, _, _, _, _, .nil => .nil
  | _, _, _, f, c, .cons h r => by
    rw [List.map_cons, PyData.canLayAll0] at c
    have c' := Bool.and_eq_true_iff.mp c
    exact .cons (f _ _ _ h c'.1) (RelAll.dps f c'.2 r)
theorem dv_ls (d : Dv S E) : Dv (ls S) (eL E) := ⟨fun {K F H fp v x} s c r => by
  obtain ⟨p, vs, fps, rfl, h, ra, rfl⟩ := r
  have c' : PyData.canLayAll0 (x.map E.enc) = true := by
    have : PyData.canLay0 (.list (x.map E.enc)) = true := c
    rwa [PyData.canLay0] at this
  exact .lst (SqL.of h) (ra.dps (fun _ _ _ q c => d.dp s c q) c')⟩
theorem shaped_of {d : PyData} (h1 : d.canLay0 = true) (h2 : d.depth ≤ 64) : SeqAt.shaped d = true := by
  unfold SeqAt.shaped
  rw [h1, decide_eq_true h2]; rfl
variable {X : Cx} {Ω : Type} {env : Env} {nm : Str} {pos np : Pos} {a b : Expr} {P P1 P2 : Type} {G : Env → Prop} {G1 : Env → Prop} {G2 : P1 → Env → Prop} {e' : P → Env} {e1 : P1 → Env} {e2 : P1 → P2 → Env} {fa : (τ1 → P1 → Option Ω) → Option Ω} {fb : P1 → (τ2 → P2 → Option Ω) → Option Ω}
/-- == of data of two kinds -/
theorem lc_eqD {n m : Nat} (hu : X.A.units + 64 < cLine) (d1 : Dv S1 E1) (d2 : Dv S2 E2) (t1 : Dt E1 n) (t2 : Dt E2 m) (ha : LO X G1 env a S1 e1 fa) (hb : ∀ p1, LO X (G2 p1) (e1 p1) b S2 (e2 p1) (fb p1)) (g1 : ∀ p1 p2, G1 (e2 p1 p2)) (g2 : ∀ p1 p2, G2 p1 (e2 p1 p2)) (hn : n ≤ 64 := by decide) (hm : m ≤ 64 := by decide) :
    LC X env .Eq a b (fun p : P1 × P2 => e2 p.1 p.2) (fun k => fa fun x p1 => fb p1 fun y p2 => k (PyData.eqv (E1.enc x) (E2.enc y)) (p1, p2)) :=
  lc_cmp (op_eqD hu) ha hb g1 g2 fun K F H fp fq v u x y Q hK s r1 r2 q => by
    subst hK
    exact ⟨_, _, d1.dp s (t1.lay x) r1, d2.dp s (t2.lay y) r2, shaped_of (t1.lay x) (Nat.le_trans (t1.dep x) hn), shaped_of (t2.lay y) (Nat.le_trans (t2.dep y) hm), q⟩
theorem lc_neD {n m : Nat} (hu : X.A.units + 64 < cLine) (d1 : Dv S1 E1) (d2 : Dv S2 E2) (t1 : Dt E1 n) (t2 : Dt E2 m) (ha : LO X G1 env a S1 e1 fa) (hb : ∀ p1, LO X (G2 p1) (e1 p1) b S2 (e2 p1) (fb p1)) (g1 : ∀ p1 p2, G1 (e2 p1 p2)) (g2 : ∀ p1 p2, G2 p1 (e2 p1 p2)) (hn : n ≤ 64 := by decide) (hm : m ≤ 64 := by decide) :
    LC X env .NotEq a b (fun p : P1 × P2 => e2 p.1 p.2) (fun k => fa fun x p1 => fb p1 fun y p2 => k (!PyData.eqv (E1.enc x) (E2.enc y)) (p1, p2)) :=
  lc_cmp (op_neD hu) ha hb g1 g2 fun K F H fp fq v u x y Q hK s r1 r2 q => by
    subst hK
    exact ⟨_, _, d1.dp s (t1.lay x) r1, d2.dp s (t2.lay y) r2, shaped_of (t1.lay x) (Nat.le_trans (t1.dep x) hn), shaped_of (t2.lay y) (Nat.le_trans (t2.dep y) hm), q⟩
/-- .. of any data, with a check -/
theorem lc_eqC (hu : X.A.units + 64 < cLine) (d1 : Dv S1 E1) (d2 : Dv S2 E2) (ha : LO X G1 env a S1 e1 fa) (hb : ∀ p1, LO X (G2 p1) (e1 p1) b S2 (e2 p1) (fb p1)) (g1 : ∀ p1 p2, G1 (e2 p1 p2)) (g2 : ∀ p1 p2, G2 p1 (e2 p1 p2)) :
    LC X env .Eq a b (fun p : P1 × P2 => e2 p.1 p.2) (fun k => fa fun x p1 => fb p1 fun y p2 => ck (SeqAt.shaped (E1.enc x) && SeqAt.shaped (E2.enc y)) (k (PyData.eqv (E1.enc x) (E2.enc y)) (p1, p2))) :=
  lc_cmpC (c := fun x y => SeqAt.shaped (E1.enc x) && SeqAt.shaped (E2.enc y)) (op_eqD hu) ha hb g1 g2 fun K F H fp fq v u x y Q hK s hc r1 r2 q => by
    subst hK
    obtain ⟨c1, c2⟩ := Bool.and_eq_true_iff.mp hc
    exact ⟨_, _, d1.dp s (SeqAt.canLay_of_shaped c1) r1, d2.dp s (SeqAt.canLay_of_shaped c2) r2, c1, c2, q⟩
theorem lc_neC (hu : X.A.units + 64 < cLine) (d1 : Dv S1 E1) (d2 : Dv S2 E2) (ha : LO X G1 env a S1 e1 fa) (hb : ∀ p1, LO X (G2 p1) (e1 p1) b S2 (e2 p1) (fb p1)) (g1 : ∀ p1 p2, G1 (e2 p1 p2)) (g2 : ∀ p1 p2, G2 p1 (e2 p1 p2)) :
    LC X env .NotEq a b (fun p : P1 × P2 => e2 p.1 p.2) (fun k => fa fun x p1 => fb p1 fun y p2 => ck (SeqAt.shaped (E1.enc x) && SeqAt.shaped (E2.enc y)) (k (!PyData.eqv (E1.enc x) (E2.enc y)) (p1, p2))) :=
  lc_cmpC (c := fun x y => SeqAt.shaped (E1.enc x) && SeqAt.shaped (E2.enc y)) (op_neD hu) ha hb g1 g2 fun K F H fp fq v u x y Q hK s hc r1 r2 q => by
    subst hK
    obtain ⟨c1, c2⟩ := Bool.and_eq_true_iff.mp hc
    exact ⟨_, _, d1.dp s (SeqAt.canLay_of_shaped c1) r1, d2.dp s (SeqAt.canLay_of_shaped c2) r2, c1, c2, q⟩
theorem lc_eqT [DecidableEq τ1] {S2 : Stor τ1} {fb : P1 → (τ1 → P2 → Option Ω) → Option Ω} {n : Nat} (hu : X.A.units + 64 < cLine) (d1 : Dv S1 E1) (d2 : Dv S2 E1) (t : Dt E1 n) (ev : Ev E1) (ha : LO X G1 env a S1 e1 fa) (hb : ∀ p1, LO X (G2 p1) (e1 p1) b S2 (e2 p1) (fb p1)) (g1 : ∀ p1 p2, G1 (e2 p1 p2)) (g2 : ∀ p1 p2, G2 p1 (e2 p1 p2)) (hn : n ≤ 64 := by decide) :
    LC X env .Eq a b (fun p : P1 × P2 => e2 p.1 p.2) (fun k => fa fun x p1 => fb p1 fun y p2 => k (decide (x = y)) (p1, p2)) :=
  lc_cmp (op_eqD hu) ha hb g1 g2 fun K F H fp fq v u x y Q hK s r1 r2 q => by
    subst hK
    exact ⟨_, _, d1.dp s (t.lay x) r1, d2.dp s (t.lay y) r2, shaped_of (t.lay x) (Nat.le_trans (t.dep x) hn), shaped_of (t.lay y) (Nat.le_trans (t.dep y) hn), by rw [ev.eq]; exact q⟩
theorem lc_neT [DecidableEq τ1] {S2 : Stor τ1} {fb : P1 → (τ1 → P2 → Option Ω) → Option Ω} {n : Nat} (hu : X.A.units + 64 < cLine) (d1 : Dv S1 E1) (d2 : Dv S2 E1) (t : Dt E1 n) (ev : Ev E1) (ha : LO X G1 env a S1 e1 fa) (hb : ∀ p1, LO X (G2 p1) (e1 p1) b S2 (e2 p1) (fb p1)) (g1 : ∀ p1 p2, G1 (e2 p1 p2)) (g2 : ∀ p1 p2, G2 p1 (e2 p1 p2)) (hn : n ≤ 64 := by decide) :
    LC X env .NotEq a b (fun p : P1 × P2 => e2 p.1 p.2) (fun k => fa fun x p1 => fb p1 fun y p2 => k (!decide (x = y)) (p1, p2)) :=
  lc_cmp (op_neD hu) ha hb g1 g2 fun K F H fp fq v u x y Q hK s r1 r2 q => by
    subst hK
    exact ⟨_, _, d1.dp s (t.lay x) r1, d2.dp s (t.lay y) r2, shaped_of (t.lay x) (Nat.le_trans (t.dep x) hn), shaped_of (t.lay y) (Nat.le_trans (t.dep y) hn), by rw [ev.eq]; exact q⟩
/-- is None, is not None -/
def isNone (d : PyData) : Bool := match d with
  | .none => true
  | _ => false
theorem enc_none {v : V} {K : Fg} {F : Hp} {d : PyData} (h : Rep K F v d) : decide (v = .non) = isNone d := by
  cases h <;> simp [isNone]
theorem lc_isN {fp1 : (τ1 → P1 → Option Ω) → Option Ω} {j : Nat} {cp : Pos} (ha : LX X env a (it E1) e1 fp1) : LC X env .Is a (.Constant .none j cp) (fun p : P1 × Unit => e1 p.1) (fun k => fp1 fun x p1 => k (isNone (E1.enc x)) (p1, ())) :=
  lc_cmp (g := fun x _ => isNone (E1.enc x)) op_isN (lo_of ha) (fun p1 => lo_of (lx_non (env := e1 p1))) (fun _ _ => trivial) (fun _ _ => trivial) fun K F H fp fq v u x y Q hK s r1 r2 q => by
    obtain ⟨_, r1⟩ := r1
    obtain ⟨_, r2⟩ := r2
    have r2' : Rep K F u .none := r2
    cases r2'
    exact ⟨rfl, by rw [enc_none r1]; exact q⟩
theorem lc_notN {fp1 : (τ1 → P1 → Option Ω) → Option Ω} {j : Nat} {cp : Pos} (ha : LX X env a (it E1) e1 fp1) : LC X env .IsNot a (.Constant .none j cp) (fun p : P1 × Unit => e1 p.1) (fun k => fp1 fun x p1 => k (!isNone (E1.enc x)) (p1, ())) :=
  lc_cmp (g := fun x _ => !isNone (E1.enc x)) op_notN (lo_of ha) (fun p1 => lo_of (lx_non (env := e1 p1))) (fun _ _ => trivial) (fun _ _ => trivial) fun K F H fp fq v u x y Q hK s r1 r2 q => by
    obtain ⟨_, r1⟩ := r1
    obtain ⟨_, r2⟩ := r2
    have r2' : Rep K F u .none := r2
    cases r2'
    exact ⟨rfl, by rw [enc_none r1]; exact q⟩

/-! ### min, max, sorted of lists of data -/
def rMinD (K : Fg) : List V → Hp → VK → Prop := fun vs H Q => ∃ (p : Addr) (its : List V) (x : PyData) (xs : List PyData), vs = [.ref p] ∧ SqL K H p its ∧ DpAll K H its (x :: xs) ∧ PyData.canLayAll0 (x :: xs) = true ∧ PySem.W.AlikeAll (x :: xs) ∧ PyData.depthAll (x :: xs) ≤ 60 ∧
  ∀ (i : Nat) (v : V), its[i]? = some v → (x :: xs)[i]? = some (PySem.W.minD x xs) → Q v H
def rMaxD (K : Fg) : List V → Hp → VK → Prop := fun vs H Q => ∃ (p : Addr) (its : List V) (x : PyData) (xs : List PyData), vs = [.ref p] ∧ SqL K H p its ∧ DpAll K H its (x :: xs) ∧ PyData.canLayAll0 (x :: xs) = true ∧ PySem.W.AlikeAll (x :: xs) ∧ PyData.depthAll (x :: xs) ≤ 60 ∧
  ∀ (i : Nat) (v : V), its[i]? = some v → (x :: xs)[i]? = some (PySem.W.maxD x xs) → Q v H
theorem canLay_get : ∀ {ds : List PyData} {i : Nat} {d : PyData}, PyData.canLayAll0 ds = true → ds[i]? = some d → d.canLay0 = true
  | [], _, _, _, e => by simp at e
  | d :: ds, 0, _, c, e => by
    rw [PyData.canLayAll0] at c
    simp at e; subst e
    exact (Bool.and_eq_true_iff.mp c).1
  | d :: ds, i + 1, _, c, e => by
    rw [PyData.canLayAll0] at c
    exact canLay_get (Bool.and_eq_true_iff.mp c).2 (by simpa using e)
theorem readsAll_get {h : Heap} : ∀ {us : List Value} {ds : List PyData} {as : List Addr} {i : Nat} {u : Value}, ReadsAll h us ds as → us[i]? = some u → ∃ d bs, ds[i]? = some d ∧ Reads h u d bs
  | _, _, _, _, _, .nil, e => by simp at e
  | _, _, _, 0, _, .cons r _, e => by simp at e; subst e; exact ⟨_, _, rfl, r⟩
  | _, _, _, i + 1, _, .cons _ r, e => by
    obtain ⟨d, bs, h1, h2⟩ := readsAll_get (i := i) r (by simpa using e)
    exact ⟨d, bs, by simpa using h1, h2⟩
theorem cr_minD (hc : X.calm = true) (hu : X.A.units + 64 < cLine) : CallR X (.builtin "min") (rMinD X.K) := by
  intro pins s σ H vs us Q I r h
  obtain ⟨p, its, x, xs, rfl, hs, hd, hl0, hal, hdep, q⟩ := h
  obtain ⟨uts, rv, pl, hz⟩ := I.list hs
  rw [Vals.ref1 r]
  obtain ⟨as, hr⟩ := Dp.readsAll I (x :: xs) its uts hd rv
  refine PySem.W.min_list_data (I.ok.hd hc) pl.isList hr hal (by omega) fun i u h' tk bs hi hr' hk => ?_
  have hi' : uts[i]? = some u := by simpa using hi
  obtain ⟨d, cs, e1, r1⟩ := readsAll_get hr hi'
  have r1' := PyProof.Rows.Reads.keeps hk r1
  have e2 : d = PySem.W.minD x xs := PySem.SeqAt.Reads.unique d _ u _ _ (canLay_get hl0 e1) r1' hr'
  have hlen := rv.length
  have hi2 : i < its.length := by
    have := (List.getElem?_eq_some_iff.mp hi').1
    omega
  obtain ⟨w, hw, rw'⟩ := Vals.get rv (List.getElem?_eq_getElem hi2)
  rw [hi'] at hw; cases hw
  exact ⟨_, H, I.kept hk, rw', q i _ (List.getElem?_eq_getElem hi2) (by rw [e1, e2])⟩
theorem cr_maxD (hc : X.calm = true) (hu : X.A.units + 64 < cLine) : CallR X (.builtin "max") (rMaxD X.K) := by
  intro pins s σ H vs us Q I r h
  obtain ⟨p, its, x, xs, rfl, hs, hd, hl0, hal, hdep, q⟩ := h
  obtain ⟨uts, rv, pl, hz⟩ := I.list hs
  rw [Vals.ref1 r]
  obtain ⟨as, hr⟩ := Dp.readsAll I (x :: xs) its uts hd rv
  refine PySem.W.max_list_data (I.ok.hd hc) pl.isList hr hal (by omega) fun i u h' tk bs hi hr' hk => ?_
  have hi' : uts[i]? = some u := by simpa using hi
  obtain ⟨d, cs, e1, r1⟩ := readsAll_get hr hi'
  have r1' := PyProof.Rows.Reads.keeps hk r1
  have e2 : d = PySem.W.maxD x xs := PySem.SeqAt.Reads.unique d _ u _ _ (canLay_get hl0 e1) r1' hr'
  have hlen := rv.length
  have hi2 : i < its.length := by
    have := (List.getElem?_eq_some_iff.mp hi').1
    omega
  obtain ⟨w, hw, rw'⟩ := Vals.get rv (List.getElem?_eq_getElem hi2)
  rw [hi'] at hw; cases hw
  exact ⟨_, H, I.kept hk, rw', q i _ (List.getElem?_eq_getElem hi2) (by rw [e1, e2])⟩
/-- the first least, the first greatest, by < -/
def minB {α : Type} (lt : α → α → Bool) : List α → Option α
  | [] => none
  | x :: xs => some (xs.foldl (fun a y => if lt y a = true then y else a) x)
def maxB {α : Type} (lt : α → α → Bool) : List α → Option α
  | [] => none
  | x :: xs => some (xs.foldl (fun a y => if lt a y = true then y else a) x)
theorem minD_enc {E : Enc α} {lt : α → α → Bool} (od : Od E lt) : ∀ (xs : List α) (x : α), PySem.W.minD (E.enc x) (xs.map E.enc) = E.enc (xs.foldl (fun a y => if lt y a = true then y else a) x)
  | [], x => rfl
  | y :: xs, x => by
    show List.foldl _ (if PySem.W.dataLt (E.enc y) (E.enc x) = true then E.enc y else E.enc x) (xs.map E.enc) = _
    rw [od.lt, List.foldl_cons]
    have := minD_enc od xs (if lt y x = true then y else x)
    unfold PySem.W.minD at this
    rw [← this]
    congr 1
    cases lt y x <;> simp
theorem maxD_enc {E : Enc α} {lt : α → α → Bool} (od : Od E lt) : ∀ (xs : List α) (x : α), PySem.W.maxD (E.enc x) (xs.map E.enc) = E.enc (xs.foldl (fun a y => if lt a y = true then y else a) x)
  | [], x => rfl
  | y :: xs, x => by
    show List.foldl _ (if PySem.W.dataLt (E.enc x) (E.enc y) = true then E.enc y else E.enc x) (xs.map E.enc) = _
    rw [od.lt, List.foldl_cons]
    have := maxD_enc od xs (if lt x y = true then y else x)
    unfold PySem.W.maxD at this
    rw [← this]
    congr 1
    cases lt x y <;> simp
theorem od_all {E : Enc α} {lt : α → α → Bool} (od : Od E lt) (xs : List α) : PySem.W.AlikeAll (xs.map E.enc) := ⟨fun x hx y hy => by
  obtain ⟨a, _, rfl⟩ := List.mem_map.mp hx
  obtain ⟨b, _, rfl⟩ := List.mem_map.mp hy
  exact od.al a b, fun x hx => by
  obtain ⟨a, _, rfl⟩ := List.mem_map.mp hx
  exact od.nn a⟩
section
variable {E : Enc α} {lt : α → α → Bool} {g : τ → List α} {f : (τ → P → Option Ω) → Option Ω} {n : Nat}
theorem dts {E : Enc α} (dt : Dt E n) (xs : List α) : PyData.canLayAll0 (xs.map E.enc) = true ∧ PyData.depthAll (xs.map E.enc) ≤ n :=
  ⟨canLayAll_of fun d m => by obtain ⟨y, _, rfl⟩ := List.mem_map.mp m; exact dt.lay y, depthAll_of fun d m => by obtain ⟨y, _, rfl⟩ := List.mem_map.mp m; exact dt.dep y⟩
theorem lx_minD (hc : X.calm = true) (hu : X.A.units + 64 < cLine) (od : Od E lt) (dt : Dt E n) (hv : LVw S (it E) g) (hm : X.mg "min" = none) (ha : LO X G env a S e' f) (hG : ∀ p, G (e' p)) (hn : n ≤ 60 := by decide) (hg : Gl X "min" := by rfl) (he : starEach (a :: []) X.env = (false, eval a X.env) :: starEach [] X.env := by rfl) (hpl : (backTo pos (starEach [] X.env)).any (·.1) = false := by rfl) :
    LX X env (.Call (.Name "min" np) [a] [] pos) (it E) e' (fun k => f fun x p => (minB lt (g x)).bind fun y => k y p) :=
  lx_b1 (E := E) (g := fun x : τ => minB lt (g x)) (cr_minD hc hu) hm boot_min ha hG (fun K F H fp v x y Q hK s hy r q => by
    subst hK
    obtain ⟨p, vs, fps, rfl, h1, h2⟩ := hv.view s r
    have rp := h2.zero.2
    cases hgx : g x with
    | nil => rw [hgx] at hy; cases hy
    | cons z zs =>
      rw [hgx] at hy rp
      have hy' : y = zs.foldl (fun a y => if lt y a = true then y else a) z := (Option.some.inj hy).symm
      have hd := dts dt (z :: zs)
      refine ⟨p, vs, E.enc z, zs.map E.enc, rfl, h1, rp.dp s hd.1, hd.1, od_all od (z :: zs), Nat.le_trans hd.2 hn, fun i v hi hv => ?_⟩
      rw [minD_enc od, ← hy'] at hv
      obtain ⟨w, hw, rr⟩ := rp.get (i := i) (d := E.enc y) (by rw [← hv]; rfl)
      rw [hi] at hw; cases hw
      exact q _ rr) hg (by decide) (by decide) he hpl
theorem lx_maxD (hc : X.calm = true) (hu : X.A.units + 64 < cLine) (od : Od E lt) (dt : Dt E n) (hv : LVw S (it E) g) (hm : X.mg "max" = none) (ha : LO X G env a S e' f) (hG : ∀ p, G (e' p)) (hn : n ≤ 60 := by decide) (hg : Gl X "max" := by rfl) (he : starEach (a :: []) X.env = (false, eval a X.env) :: starEach [] X.env := by rfl) (hpl : (backTo pos (starEach [] X.env)).any (·.1) = false := by rfl) :
    LX X env (.Call (.Name "max" np) [a] [] pos) (it E) e' (fun k => f fun x p => (maxB lt (g x)).bind fun y => k y p) :=
  lx_b1 (E := E) (g := fun x : τ => maxB lt (g x)) (cr_maxD hc hu) hm boot_max ha hG (fun K F H fp v x y Q hK s hy r q => by
    subst hK
    obtain ⟨p, vs, fps, rfl, h1, h2⟩ := hv.view s r
    have rp := h2.zero.2
    cases hgx : g x with
    | nil => rw [hgx] at hy; cases hy
    | cons z zs =>
      rw [hgx] at hy rp
      have hy' : y = zs.foldl (fun a y => if lt a y = true then y else a) z := (Option.some.inj hy).symm
      have hd := dts dt (z :: zs)
      refine ⟨p, vs, E.enc z, zs.map E.enc, rfl, h1, rp.dp s hd.1, hd.1, od_all od (z :: zs), Nat.le_trans hd.2 hn, fun i v hi hv => ?_⟩
      rw [maxD_enc od, ← hy'] at hv
      obtain ⟨w, hw, rr⟩ := rp.get (i := i) (d := E.enc y) (by rw [← hv]; rfl)
      rw [hi] at hw; cases hw
      exact q _ rr) hg (by decide) (by decide) he hpl
end
end
end Z

set_option Elab.async false
set_option linter.all false
set_option maxRecDepth 100000
namespace Z
open PySem PySem.Spec PyProof.Rows L2

/-- a slice, as the layer cuts it -/
def cutL {α : Type} (xs : List α) (lo hi : Option Int) : List α := (xs.drop (HT.sIx xs.length 0 lo)).take (HT.sIx xs.length xs.length hi - HT.sIx xs.length 0 lo)
section
variable {X : Cx} {Ω : Type} {env : Env} {nm : Str} {pos np sp : Pos} {a b c : Expr} {P P1 P2 P3 : Type} {τ τ1 τ2 α β : Type} {S : Stor τ} {S1 : Stor τ1} {S2 : Stor τ2} {E : Enc α} {Eb : Enc β} {G : Env → Prop} {G1 : Env → Prop} {G2 : P1 → Env → Prop} {e' : P → Env} {e1 : P1 → Env} {e2 : P1 → P2 → Env} {e3 : P1 → P2 → P3 → Env}
  {fa : (τ1 → P1 → Option Ω) → Option Ω} {fb : P1 → (τ2 → P2 → Option Ω) → Option Ω} {g1 : τ1 → List α} {g2 : τ2 → List α}
/-- xs + ys -/
theorem lx_cat (hv1 : LVm S1 (it E) g1) (hv2 : LVm S2 (it E) g2) (ha : LO X G1 env a S1 e1 fa) (hb : ∀ p1, LO X (G2 p1) (e1 p1) b S2 (e2 p1) (fb p1)) (h1 : ∀ p1 p2, G1 (e2 p1 p2)) (h2 : ∀ p1 p2, G2 p1 (e2 p1 p2)) :
    LX X env (.BinOp a .Add b pos) (ls (it E)) (fun p : P1 × P2 => e2 p.1 p.2) (fun k => fa fun x p1 => fb p1 fun y p2 => ck (decide ((g1 x).length + (g2 y).length ≤ SZ)) (k (g1 x ++ g2 y) (p1, p2))) :=
  fun C F H σs es σ k ω Q hK hl h hk q => tE.of X (pe_op op_cat (peC X) (peC X)) (op2_run ha hb h1 h2 hK hl h hk fun x p1 y p2 v u F' H' fp fq hk' h' r1 r2 => by
    obtain ⟨hc, hk'⟩ := ck_some hk'
    obtain ⟨p, vs, fps, rfl, l1, ra⟩ := hv1.view h'.sF r1
    obtain ⟨p', ws, fqs, rfl, l2, rb⟩ := hv2.view h'.sF r2
    have hc' := of_decide_eq_true hc
    have n1 := ra.length
    have n2 := rb.length
    refine ⟨p, p', vs, ws, rfl, rfl, l1, l2, by rw [SZ_eq]; omega, fun t nt => ?_⟩
    refine q (g1 x ++ g2 y) (p1, p2) (.ref t) F' _ hk' (h'.newOw nt ⟨t, vs ++ ws, [], rfl, upd_same, ?_, rfl⟩)
    have := ra.zero.2.app rb.zero.2
    rw [← List.map_append] at this
    exact this.zero)
theorem RepAll.cut {K : Fg} {F : Hp} {vs : List V} {xs : List α} (lo hi : Option Int) (h : RepAll K F vs (xs.map E.enc)) : RepAll K F (cutV vs lo hi) ((cutL xs lo hi).map E.enc) := by
  have hl : vs.length = xs.length := by have := h.length; simpa using this
  unfold cutV cutL
  rw [hl, List.map_take, List.map_drop]
  exact (h.drop _).take _
/-- xs[i:j] -/
theorem lx_sl2 {fi : P1 → (Int → P2 → Option Ω) → Option Ω} {fj : P1 → P2 → (Int → P3 → Option Ω) → Option Ω} (hv : LVw S1 (it E) g1) (ha : LX X env a S1 e1 fa) (hi : ∀ p1, LX X (e1 p1) b (it eI) (e2 p1) (fi p1)) (hj : ∀ p1 p2, LX X (e2 p1 p2) c (it eI) (e3 p1 p2) (fj p1 p2)) :
    LX X env (.Subscript a (.Slice (some b) (some c) none sp) pos) (ls (it E)) (fun p : P1 × P2 × P3 => e3 p.1 p.2.1 p.2.2) (fun k => fa fun x p1 => fi p1 fun i p2 => fj p1 p2 fun j p3 => k (cutL (g1 x) (some i) (some j)) (p1, p2, p3)) :=
  fun C F H σs es σ k ω Q hK hl h hk q => tE.of X (pe_slice sl_list (peC X) (po_some (peC X)) (po_some (peC X))) (ha C F H σs es σ _ ω _ hK hl h hk fun x p1 v F1 H1 hk1 h1 => by
    refine hi p1 C F1 H1 (some v :: σs) (.st none τ1 S1 x :: es) σ _ ω _ hK (by simp [hl]) h1 hk1 fun i p2 u F2 H2 hk2 h2 => ?_
    have hu : u = .int i := by
      obtain ⟨v', fp, e1, r⟩ := h2.look (i := 0) rfl
      simp at e1; subst e1
      obtain ⟨_, r⟩ := r
      cases r; rfl
    subst hu
    refine ⟨i, rfl, hj p1 p2 C F2 H2 (some v :: σs) (.st none τ1 S1 x :: es) σ _ ω _ hK (by simp [hl]) h2.pop hk2 fun j p3 u F3 H3 hk3 h3 => ?_⟩
    have hu : u = .int j := by
      obtain ⟨v', fp, e1, r⟩ := h3.look (i := 0) rfl
      simp at e1; subst e1
      obtain ⟨_, r⟩ := r
      cases r; rfl
    subst hu
    obtain ⟨v', fp, ee, r⟩ := ER.look (i := 0) (show ER C F3 H3 (some v :: (σs ++ σ)) (.st none τ1 S1 x :: (es ++ e3 p1 p2 p3)) from h3.pop) rfl
    simp at ee; subst ee
    obtain ⟨p, vs, fps, rfl, l1, ra⟩ := hv.view h3.sF r
    refine ⟨j, rfl, p, vs, rfl, by rw [← hK]; exact l1, fun t nt => ?_⟩
    exact q _ (p1, p2, p3) (.ref t) F3 _ hk3 (ER.newOw (show ER C F3 H3 (σs ++ σ) (es ++ e3 p1 p2 p3) from h3.pop.pop) nt ⟨t, _, [], rfl, upd_same, (ra.zero.2.cut (some i) (some j)).zero, rfl⟩))
/-- xs[i:] -/
theorem lx_slL {fi : P1 → (Int → P2 → Option Ω) → Option Ω} (hv : LVw S1 (it E) g1) (ha : LX X env a S1 e1 fa) (hi : ∀ p1, LX X (e1 p1) b (it eI) (e2 p1) (fi p1)) :
    LX X env (.Subscript a (.Slice (some b) none none sp) pos) (ls (it E)) (fun p : P1 × P2 => e2 p.1 p.2) (fun k => fa fun x p1 => fi p1 fun i p2 => k (cutL (g1 x) (some i) none) (p1, p2)) :=
  fun C F H σs es σ k ω Q hK hl h hk q => tE.of X (pe_slice sl_list (peC X) (po_some (peC X)) po_none) (op2_run (lo_of ha) (fun p1 => lo_of (hi p1)) (fun _ _ => trivial) (fun _ _ => trivial) (R := fun x y H => ∃ i, y = .int i ∧ rSlL X.K x (some i) none H Q) hK hl h hk
    (fun x p1 i p2 v u F' H' fp fq hk' h' r1 r2 => by
      obtain ⟨_, r2⟩ := r2
      cases r2
      obtain ⟨p, vs, fps, rfl, l1, ra⟩ := hv.view h'.sF r1
      exact ⟨i, rfl, p, vs, rfl, by rw [← hK]; exact l1, fun t nt => q _ (p1, p2) (.ref t) F' _ hk' (h'.newOw nt ⟨t, _, [], rfl, upd_same, (ra.zero.2.cut (some i) none).zero, rfl⟩)⟩))
/-- xs[:j] -/
theorem lx_slR {fi : P1 → (Int → P2 → Option Ω) → Option Ω} (hv : LVw S1 (it E) g1) (ha : LX X env a S1 e1 fa) (hi : ∀ p1, LX X (e1 p1) b (it eI) (e2 p1) (fi p1)) :
    LX X env (.Subscript a (.Slice none (some b) none sp) pos) (ls (it E)) (fun p : P1 × P2 => e2 p.1 p.2) (fun k => fa fun x p1 => fi p1 fun j p2 => k (cutL (g1 x) none (some j)) (p1, p2)) :=
  fun C F H σs es σ k ω Q hK hl h hk q => tE.of X (pe_slice sl_list (peC X) po_none (po_some (peC X))) (op2_run (lo_of ha) (fun p1 => lo_of (hi p1)) (fun _ _ => trivial) (fun _ _ => trivial) (R := fun x y H => ∃ i, y = .int i ∧ rSlL X.K x none (some i) H Q) hK hl h hk
    (fun x p1 i p2 v u F' H' fp fq hk' h' r1 r2 => by
      obtain ⟨_, r2⟩ := r2
      cases r2
      obtain ⟨p, vs, fps, rfl, l1, ra⟩ := hv.view h'.sF r1
      exact ⟨i, rfl, p, vs, rfl, by rw [← hK]; exact l1, fun t nt => q _ (p1, p2) (.ref t) F' _ hk' (h'.newOw nt ⟨t, _, [], rfl, upd_same, (ra.zero.2.cut none (some i)).zero, rfl⟩)⟩))

/-! ### sorted -/
def rSortD (K : Fg) : List V → Hp → VK → Prop := fun vs H Q => ∃ (p : Addr) (its : List V) (ds : List PyData), vs = [.ref p] ∧ SqL K H p its ∧ DpAll K H its ds ∧ PySem.W.AllAlike ds ∧ PySem.W.Sortable ds ∧ (∀ d ∈ ds, d.depth ≤ 60) ∧
  ∀ t, H t = none → Q (.ref t) (upd H t (.lst (((its.zip ds).mergeSort (PySem.W.dataLe false Prod.snd)).map Prod.fst)))
theorem eachIs_zip {its : List V} {ds : List PyData} {us : List Value} (h : Vals its us) : its.length = ds.length → PySem.W.EachIs (fun (u : Value) (p : V × PyData) => RelV p.1 u) us (its.zip ds) := by
  intro hl
  induction h generalizing ds with
  | nil => cases ds with
    | nil => exact .nil
    | cons d ds => simp at hl
  | cons r t ih => cases ds with
    | nil => simp at hl
    | cons d ds => exact .cons r (ih (by simpa using hl))
theorem eachIs_reads {h : Heap} {its : List V} {ds : List PyData} {us : List Value} {as : List Addr} (hr : ReadsAll h us ds as) (hl : its.length = ds.length) : PySem.W.EachIs (fun (u : Value) (p : V × PyData) => ∃ as, Reads h u p.2 as) us (its.zip ds) := by
  induction us generalizing its ds as with
  | nil => cases hr; cases its with
    | nil => exact .nil
    | cons _ _ => simp at hl
  | cons u us ih =>
    cases hr with
    | cons r1 r2 => cases its with
      | nil => simp at hl
      | cons v its => exact .cons ⟨_, r1⟩ (ih r2 (by simpa using hl))
theorem eachIs_vals {out : List Value} {ps : List (V × PyData)} (h : PySem.W.EachIs (fun (u : Value) (p : V × PyData) => RelV p.1 u) out ps) : Vals (ps.map Prod.fst) out := by
  induction h with
  | nil => exact .nil
  | cons r _ ih => exact .cons r ih
theorem dpAll_length {K : Fg} {H : Hp} : ∀ {vs : List V} {ds : List PyData}, DpAll K H vs ds → vs.length = ds.length
  | _, _, .nil => rfl
  | _, _, .cons _ r => congrArg (· + 1) (dpAll_length r)
theorem cr_sortD (hu : X.A.units + 64 < cLine) : CallR X (.builtin "sorted") (rSortD X.K) := by
  intro pins s σ H vs us Q I r h
  obtain ⟨p, its, ds, rfl, hs, hd, hal, hso, hdep, q⟩ := h
  obtain ⟨uts, rv, pl, hz⟩ := I.list hs
  rw [Vals.ref1 r]
  obtain ⟨as, hr⟩ := Dp.readsAll I ds its uts hd rv
  have hl := dpAll_length hd
  have hm : (its.zip ds).map Prod.snd = ds := by rw [List.map_snd_zip (by omega)]
  refine PySem.W.sorted_data (enc := Prod.snd) (bs := its.zip ds) (R := fun (u : Value) (p : V × PyData) => RelV p.1 u) pl.isList (eachIs_zip rv hl) (eachIs_reads hr hl) (by rw [hm]; exact hal) (by rw [hm]; exact hso) (by rw [List.length_zip]; omega) (fun b hb => ?_) fun out ho eo => ?_
  · have : b.2 ∈ ds := by rw [← hm]; exact List.mem_map_of_mem hb
    have := hdep _ this
    omega
  · obtain ⟨ep, he'⟩ := PyProof.Rows.sortedAll_at s.heap uts out.toArray
    have rv' := eachIs_vals eo
    have hlen : (((its.zip ds).mergeSort (PySem.W.dataLe false Prod.snd)).map Prod.fst).length ≤ sizeLine := by
      rw [List.length_map, List.length_mergeSort, List.length_zip]; omega
    exact ⟨.ref _, upd H (s.heap.objs.size + 1) (.lst (((its.zip ds).mergeSort (PySem.W.dataLe false Prod.snd)).map Prod.fst)), I.laid (t' := s.toks) (fun _ _ => PyProof.Rows.sortedAll_old) (Nat.le_succ _) ⟨hlen, out, ep, rv', he'⟩, rfl, q _ (I.hok.fresh (Nat.le_succ _))⟩
/-- sorted by <, equal ones as they stood -/
def sortB {α : Type} (lt : α → α → Bool) (xs : List α) : List α := xs.mergeSort fun x y => !lt y x
/-- tuples that are not empty, or no tuples -/
structure So (E : Enc α) : Prop where
  so : (∀ x, ∃ y r, E.enc x = .tuple (y :: r)) ∨ ∀ x, E.enc x ≠ .none ∧ ∀ r, E.enc x ≠ .tuple r
theorem soI : So eI := ⟨.inr fun _ => ⟨(fun h => by cases h), (fun _ h => by cases h)⟩⟩
theorem soT2 {A : Enc α} {B : Enc β} : So (eT2 A B) := ⟨.inl fun _ => ⟨_, _, rfl⟩⟩
theorem soT3 {γ : Type} {A : Enc α} {B : Enc β} {D : Enc γ} : So (eT3 A B D) := ⟨.inl fun _ => ⟨_, _, rfl⟩⟩
theorem soT4 {γ δ : Type} {A : Enc α} {B : Enc β} {D : Enc γ} {D' : Enc δ} : So (eT4 A B D D') := ⟨.inl fun _ => ⟨_, _, rfl⟩⟩
theorem zip_rep {K : Fg} {F : Hp} : ∀ {vs : List V} {xs : List α}, RepAll K F vs (xs.map E.enc) → (vs.zip (xs.map E.enc)) = (vs.zip xs).map fun p => (p.1, E.enc p.2)
  | [], _, _ => rfl
  | _ :: _, [], h => by cases h
  | v :: vs, x :: xs, h => by
    cases h with
    | cons h1 h2 =>
      show (v, E.enc x) :: vs.zip (xs.map E.enc) = (v, E.enc x) :: (vs.zip xs).map _
      rw [zip_rep h2]
theorem rep_zip {K : Fg} {F : Hp} : ∀ {vs : List V} {xs : List α}, RepAll K F vs (xs.map E.enc) → ∀ p ∈ vs.zip xs, Rep K F p.1 (E.enc p.2)
  | [], _, _, p, m => by simp at m
  | _ :: _, [], h, _, _ => by cases h
  | v :: vs, x :: xs, h, p, m => by
    cases h with
    | cons h1 h2 =>
      rcases List.mem_cons.mp m with rfl | m
      · exact h1
      · exact rep_zip h2 p m
theorem RepAll.of_pairs {K : Fg} {F : Hp} : ∀ (ps : List (V × α)), (∀ p ∈ ps, Rep K F p.1 (E.enc p.2)) → RepAll K F (ps.map Prod.fst) ((ps.map Prod.snd).map E.enc)
  | [], _ => .nil
  | p :: ps, h => .cons (h p List.mem_cons_self) (RepAll.of_pairs ps fun q m => h q (List.mem_cons_of_mem _ m))
theorem sort_pairs {K : Fg} {F : Hp} {lt : α → α → Bool} (od : Od E lt) {vs : List V} {xs : List α} (h : RepAll K F vs (xs.map E.enc)) :
    RepAll K F (((vs.zip (xs.map E.enc)).mergeSort (PySem.W.dataLe false Prod.snd)).map Prod.fst) ((sortB lt xs).map E.enc) := by
  have hl : vs.length = xs.length := by have := h.length; simpa using this
  have e0 : ((vs.zip xs).mergeSort fun p q => !lt q.2 p.2).map (fun p => (p.1, E.enc p.2)) = (vs.zip (xs.map E.enc)).mergeSort (PySem.W.dataLe false Prod.snd) := by
    rw [zip_rep h]
    refine PySem.W.sort_maps _ fun p _ q _ => ?_
    rw [PySem.W.dataLe_eq]
    show (!lt q.2 p.2) = !PySem.W.dataLt (E.enc q.2) (E.enc p.2)
    rw [od.lt]
  rw [← e0, List.map_map]
  have e1 : ((vs.zip xs).mergeSort fun p q => !lt q.2 p.2).map Prod.snd = sortB lt xs := by
    unfold sortB
    rw [PySem.W.sort_maps (s := fun x y => !lt y x) Prod.snd (fun p _ q _ => rfl), List.map_snd_zip (by omega)]
  rw [← e1]
  exact RepAll.of_pairs _ fun p m => rep_zip h p (List.mem_mergeSort.mp m)
theorem lx_sorted {lt : α → α → Bool} {n : Nat} {g : τ → List α} {f : (τ → P → Option Ω) → Option Ω} (hu : X.A.units + 64 < cLine) (od : Od E lt) (so : So E) (dt : Dt E n) (hv : LVw S (it E) g) (hm : X.mg "sorted" = none) (ha : LO X G env a S e' f) (hG : ∀ p, G (e' p)) (hn : n ≤ 60 := by decide) (hg : Gl X "sorted" := by rfl) (he : starEach (a :: []) X.env = (false, eval a X.env) :: starEach [] X.env := by rfl) (hpl : (backTo pos (starEach [] X.env)).any (·.1) = false := by rfl) :
    LX X env (.Call (.Name "sorted" np) [a] [] pos) (ls (it E)) e' (fun k => f fun x p => (some (sortB lt (g x))).bind fun y => k y p) :=
  lx_b1n (E := E) (g := fun x : τ => some (sortB lt (g x))) (cr_sortD hu) hm PyProof.Rows.boot_sorted ha hG (fun K F H fp v x y Q hK s hy r q => by
    subst hK
    cases hy
    obtain ⟨p, vs, fps, rfl, h1, h2⟩ := hv.view s r
    have rp := h2.zero.2
    have hd := dts dt (g x)
    refine ⟨p, vs, (g x).map E.enc, rfl, h1, rp.dp s hd.1, (od_all od (g x)).1, ?_, fun d m => by obtain ⟨y, _, rfl⟩ := List.mem_map.mp m; exact Nat.le_trans (dt.dep y) hn, fun t nt => q t _ nt (sort_pairs od rp)⟩
    rcases so.so with so | so
    · exact .inl fun d m => by obtain ⟨y, _, rfl⟩ := List.mem_map.mp m; exact so y
    · exact .inr fun d m => by obtain ⟨y, _, rfl⟩ := List.mem_map.mp m; exact so y) hg (by decide) (by decide) he hpl

/-! ### enumerate, zip -/
def enumL {α : Type} (xs : List α) : List (Int × α) := xs.zipIdx.map fun p => ((p.2 : Int), p.1)
theorem enumL_get {α : Type} (xs : List α) (i : Nat) : (enumL xs)[i]? = (xs[i]?).map fun x => ((i : Int), x) := by
  unfold enumL
  rw [List.getElem?_map, List.getElem?_zipIdx]
  cases xs[i]? <;> simp
theorem li_enum {f : (τ → P → Option Ω) → Option Ω} {g : τ → List α} {elts : List Expr} {kk : Nat} {tp p : Pos} (hg : Gl X "enumerate") (hm : X.mg "enumerate" = none) (hv : LVw S (it E) g) (h : LX X env a S e' f) (hs : starEach [a] X.env = [(false, eval a X.env)] := by rfl) (hs4 : starEach [a] X.env = (false, eval a X.env) :: starEach [] X.env := by rfl) :
    LI X env (.Tuple elts kk tp) (.Call (.Name "enumerate" p) [a] [] pos) (it (eT2 eI E)) e' (fun k => f fun x q => k (enumL (g x)) q) :=
  fun C F H σs es σ k ω R hK hl hr hk q => tI.of X (pi_enum hg hm (pa_cons (peC X) pa_nil hs4) hs) (h C F H σs es σ _ ω _ hK hl hr hk fun x p v F' H' hk' h' => by
    obtain ⟨v', fp, e1, r⟩ := h'.look (i := 0) rfl
    simp at e1; subst e1
    obtain ⟨p0, vs, fps, rfl, hs, ra⟩ := hv.view h'.sF r
    refine ⟨p0, vs, rfl, by rw [← hK]; exact hs, q (enumL (g x)) p (Ite X.K p0) F' H' [some (.ref p0)] [.st none τ S x] hk' h' ⟨rfl, fun i F2 H2 σ2 σb e2 eb hl2 h2 => ?_⟩⟩
    obtain ⟨v', fp', e1, r'⟩ := h2.look (i := e2.length + 0) (by rw [at_app _ rfl]; rfl)
    rw [at_app _ hl2] at e1
    simp at e1; subst e1
    obtain ⟨p1, ws, fps', e3, hs', ra'⟩ := hv.view h2.sF r'
    cases e3
    rw [hK] at hs'
    have rp := ra'.zero.2
    rw [enumL_get]
    refine ⟨fun y hy => ?_, fun hn => ?_⟩
    · cases hgi : (g x)[i]? with
      | none => rw [hgi] at hy; cases hy
      | some z =>
        rw [hgi] at hy
        cases hy
        obtain ⟨w, hw, rw'⟩ := rp.get (i := i) (d := E.enc z) (by rw [List.getElem?_map, hgi]; rfl)
        refine ⟨⟨ws, w, hs', hw⟩, fun v H' hy' => ?_⟩
        obtain ⟨T, w', rfl, nT, rfl, hy'⟩ := hy'
        have := hy' ws hs'
        rw [hw] at this; cases this
        refine ⟨upd F2 T (.tup [.int (i : Nat), w]), (h2.newF nT).pushSh ?_⟩
        exact .tup (SqT.of upd_same) (.cons (.int _) (.cons (rw'.mono (same_new (h2.fnone nT))) .nil))
    · refine ⟨ws, hs', ?_⟩
      have := rp.length
      simp at this
      cases hgi : (g x)[i]? with
      | none => have := List.getElem?_eq_none_iff.mp hgi; omega
      | some z => rw [hgi] at hn; cases hn)
theorem li_zip {fa : (τ1 → P1 → Option Ω) → Option Ω} {fb : P1 → (τ2 → P2 → Option Ω) → Option Ω} {g2 : τ2 → List β} {elts : List Expr} {kk : Nat} {tp p : Pos} (hg : Gl X "zip") (hm : X.mg "zip" = none) (hv : LVw S1 (it E) g1) (hv2 : LVw S2 (it Eb) g2) (h : LX X env a S1 e1 fa) (h2 : ∀ p1, LX X (e1 p1) b S2 (e2 p1) (fb p1))
    (hs : starEach [a, b] X.env = (false, eval a X.env) :: starEach [b] X.env := by rfl) (hs4 : starEach [b] X.env = (false, eval b X.env) :: starEach [] X.env := by rfl) (hpl : (backTo pos (starEach [b] X.env)).any (·.1) = false := by rfl) :
    LI X env (.Tuple elts kk tp) (.Call (.Name "zip" p) [a, b] [] pos) (it (eT2 E Eb)) (fun q : P1 × P2 => e2 q.1 q.2) (fun k => fa fun x p1 => fb p1 fun y p2 => k ((g1 x).zip (g2 y)) (p1, p2)) :=
  fun C F H σs es σ k ω R hK hl hr hk q => tI.of X (pi_zip hg hm (pa_cons (peC X) (pa_cons (peC X) pa_nil hs4) hs) hs hpl) (h C F H σs es σ _ ω _ hK hl hr hk fun x p1 v F1 H1 hk1 h1 =>
    h2 p1 C F1 H1 (some v :: σs) (.st none τ1 S1 x :: es) σ _ ω _ hK (by simp [hl]) h1 hk1 fun y p2 u F' H' hk' h' => by
      have h'' : ER C F' H' ([some u, some v] ++ (σs ++ σ)) ([.st none τ2 S2 y, .st none τ1 S1 x] ++ (es ++ e2 p1 p2)) := h'
      obtain ⟨u', fq, eq1, rq⟩ := h''.look (i := 0) rfl
      simp at eq1; subst eq1
      obtain ⟨v', fp, ev1, rv⟩ := h''.look (i := 1) rfl
      simp at ev1; subst ev1
      obtain ⟨pb, ws, fqs, rfl, hsb, rb⟩ := hv2.view h''.sF rq
      obtain ⟨pa, vs, fps, rfl, hsa, ra⟩ := hv.view h''.sF rv
      refine ⟨pa, pb, vs, ws, rfl, by rw [← hK]; exact hsa, by rw [← hK]; exact hsb, q ((g1 x).zip (g2 y)) (p1, p2) (Itz X.K pa pb) F' H' [some (.ref pb), some (.ref pa)] [.st none τ2 S2 y, .st none τ1 S1 x] hk' h'' ⟨rfl, fun i F2 H2 σ2 σb e2' eb hl2 h3 => ?_⟩⟩
      obtain ⟨u', fq', eq1, rq'⟩ := h3.look (i := e2'.length + 0) (by rw [at_app _ rfl]; rfl)
      rw [at_app _ hl2] at eq1
      simp at eq1; subst eq1
      obtain ⟨v', fp', ev1, rv'⟩ := h3.look (i := e2'.length + 1) (by rw [at_app _ rfl]; rfl)
      rw [at_app _ hl2] at ev1
      simp at ev1; subst ev1
      obtain ⟨pb', ws', fqs', e5, hsb', rb'⟩ := hv2.view h3.sF rq'
      obtain ⟨pa', vs', fps', e6, hsa', ra'⟩ := hv.view h3.sF rv'
      cases e5; cases e6
      rw [hK] at hsb' hsa'
      have rpb := rb'.zero.2
      have rpa := ra'.zero.2
      have lb := rpb.length
      have la := rpa.length
      simp at lb la
      refine ⟨fun z hz => ?_, fun hn => ?_⟩
      · rw [List.getElem?_zip_eq_some] at hz
        obtain ⟨hz1, hz2⟩ := hz
        obtain ⟨w1, hw1, rw1⟩ := rpa.get (i := i) (d := E.enc z.1) (by rw [List.getElem?_map, hz1]; rfl)
        obtain ⟨w2, hw2, rw2⟩ := rpb.get (i := i) (d := Eb.enc z.2) (by rw [List.getElem?_map, hz2]; rfl)
        refine ⟨⟨vs', ws', w1, w2, hsa', hsb', hw1, hw2⟩, fun v H' hy' => ?_⟩
        obtain ⟨T, x1, x2, rfl, nT, rfl, hy1, hy2⟩ := hy'
        have t1 := hy1 vs' hsa'
        have t2 := hy2 ws' hsb'
        rw [hw1] at t1; cases t1
        rw [hw2] at t2; cases t2
        refine ⟨upd F2 T (.tup [w1, w2]), (h3.newF nT).pushSh ?_⟩
        have sm := same_new (u := HO.tup [w1, w2]) (h3.fnone nT)
        exact .tup (SqT.of upd_same) (.cons (rw1.mono sm) (.cons (rw2.mono sm) .nil))
      · refine ⟨vs', ws', hsa', hsb', ?_⟩
        have := List.getElem?_eq_none_iff.mp hn
        rw [List.length_zip] at this
        omega)
end
section
variable {X : Cx} {R I Ω : Type} {SR : Stor R} {envR : I → Env} {kr : R → I → Option Ω} {bk ct : Lp Ω} {env : Env} {nm : Str} {pos : Pos} {e : Expr} {rest : List Stmt} {P : Type} {τ α : Type} {S : Stor τ} {E : Enc α} {e' : P → Env} {J : Type} {envJ : J → Env} {g : τ → List α}
/-- x.extend(ys), x a list of one's own -/
theorem lb_ext {f : (τ → P → Option Ω) → Option Ω} {fr : τ → P → (J → Option Ω) → Option Ω} {w : Option V} {x0 : List α} {xs : P → List α} {ap cp np : Pos} (i : Nat) (h0 : env[i]? = some (.st w (List α) (ls (it E)) x0)) (hvw : LVm S (it E) g)
    (he : LX X env e S e' f) (h1 : ∀ p, (e' p)[i]? = some (.st w (List α) (ls (it E)) (xs p))) (hr : ∀ y p, LB X SR envR kr bk ct ((e' p).set i (.st w (List α) (ls (it E)) (xs p ++ g y))) rest envJ (fr y p))
    (hN : X.N[i]? = some nm := by rfl) (hv : Vis X.env.scope nm := by first | exact Or.inl rfl | exact Or.inr (Or.inl rfl) | exact Or.inr (Or.inr rfl))
    (hd : (nm == ("__debug__" : Str)) = false := by decide) (hcd : (nm == ("__classdict__" : Str)) = false := by decide)
    (hbase : attributeBase (.Name nm np) "extend" X.env (eval (.Name nm np) X.env) = eval (.Name nm np) X.env := by rfl)
    (hfew : ((backTo cp (starEach [e] X.env)).all (fun x => !x.1) && (backToKw cp (keywordEach [] X.env)).all (fun x => x.1.isSome) && decide ([e].length + ([] : List Keyword).length + (if ([] : List Keyword).isEmpty then 0 else 1) < 30)) = true := by rfl)
    (hline : (ap.endLine == cp.line) = true := by rfl) (hse : starEach [e] X.env = (false, eval e X.env) :: starEach [] X.env := by rfl) (hplain : (backTo cp (starEach [] X.env)).any (·.1) = false := by rfl)
    (hsw : swapsWith (.Call (.Attribute (.Name nm np) "extend" ap) [e] [] cp) none pos.line X.env = pure false := by rfl) :
    LB X SR envR kr bk ct env (.Expr (.Call (.Attribute (.Name nm np) "extend" ap) [e] [] cp) pos :: rest) envJ (fun kn => f fun y p => ck (decide ((xs p).length + (g y).length ≤ SZ)) (fr y p kn)) :=
  fun C F H σs es σ kn ω D hK hl h hk qn qb qc qr => tSs.of X (pss_cons (ps_expr (pe_bm PySem.F.plainAttrs_list PySem.F.slot_list_extend PySem.F.type_list_extend mt_extend (pe_var hN hv hd hcd) (pa_cons (peC X) pa_nil hse) hbase hfew hline hse hplain) hsw) (pssC X)) (by
    obtain ⟨l, fp, e1, r⟩ := h.lookF hl h0
    obtain ⟨q0, vs0, fps0, rfl, hq0, _, _⟩ := r
    refine ⟨_, e1, .inl ⟨rfl, vs0, SqL.of hq0⟩, he C F H σs es σ _ ω _ hK hl h hk fun y p v F' H' hk' h' => ?_⟩
    obtain ⟨hc, hk'⟩ := ck_some hk'
    have hc' := of_decide_eq_true hc
    obtain ⟨v', fpy, ey, ry⟩ := h'.look (i := 0) rfl
    simp at ey; subst ey
    obtain ⟨pb, zs, fps, rfl, hb, rb⟩ := hvw.view h'.sF ry
    have rpb := rb.zero.2
    obtain ⟨l', fp', e4, r1, nd, ow, fin⟩ := (ER.pop h').mut (i := es.length + i) (by rw [at_app _ rfl]; exact h1 p)
    rw [at_app _ hl, e1] at e4
    cases e4
    obtain ⟨q1, vs, fps', e5, hq, ra, rfl⟩ := r1
    cases e5
    obtain ⟨rfl, rp⟩ := ra.zero
    have n1 : vs.length = (xs p).length := by have := rp.length; simpa using this
    have n2 : zs.length = (g y).length := by have := rpb.length; simpa using this
    refine ⟨q0, pb, vs, zs, rfl, rfl, hq, hb, by rw [SZ_eq]; omega, ?_⟩
    have fin' := fin (List α) (ls (it E)) (xs p ++ g y) (upd H' q0 (.lst (vs ++ zs))) [q0] (fun a na _ => upd_ne fun z => na (by rw [z]; simp)) (fun a m => ?_) ⟨q0, vs ++ zs, [], rfl, upd_same, ?_, rfl⟩ (by simp) (fun a m => ?_)
    · rw [List.set_append_right _ _ (Nat.le_add_right _ _), Nat.add_sub_cancel_left] at fin'
      exact hr y p C F' _ σs es σ kn ω D hK hl fin' hk' qn qb qc qr
    · by_cases z : a = q0
      · subst z; rw [upd_same]; exact fun z => by cases z
      · rw [upd_ne z]; exact m
    · have := rp.app rpb
      rw [← List.map_append] at this
      exact this.zero
    · simp at m; subst m
      exact ⟨by rw [upd_same]; exact (fun z => by cases z), .inl (by simp)⟩)
end
/-! ### the script; the last step -/
theorem lv_scr : LVw scr (it eI) id := ⟨fun {K F H fp v x} s r => by
  obtain ⟨_, a, rfl, q⟩ := r
  exact ⟨a, _, [], rfl, s.seq q, (RepAll.ofInts x).zero⟩⟩
theorem lb_use {X : Cx} {R I Ω J : Type} {SR : Stor R} {envR : I → Env} {kr : R → I → Option Ω} {bk ct : Lp Ω} {env : Env} {sts : List Stmt} {envJ : J → Env} {f f' : (J → Option Ω) → Option Ω} (h : LB X SR envR kr bk ct env sts envJ f) (e : f = f') : LB X SR envR kr bk ct env sts envJ f' := e ▸ h
theorem lx_use {X : Cx} {Ω P τ : Type} {S : Stor τ} {env : Env} {e : Expr} {env' : P → Env} {f f' : (τ → P → Option Ω) → Option Ω} (h : LX X env e S env' f) (q : f = f') : LX X env e S env' f' := q ▸ h
end Z

set_option Elab.async false
set_option linter.all false
set_option maxRecDepth 100000
namespace Z
open PySem PySem.Spec PyProof.Rows L2

/-! ### a state [n, cells]: a list that holds an int and a list of ints of its own -/
abbrev TSt := Int × List Int
def stT : Stor TSt where
  rel := fun _ _ H fp v t => ∃ p q, v = .ref p ∧ H p = some (.lst [.int t.1, .ref q]) ∧ H q = some (.lst (t.2.map V.int)) ∧ fp = [p, q]
  monoF := fun _ h => h
  frame := fun f h => by
    obtain ⟨p, q, rfl, h1, h2, rfl⟩ := h
    exact ⟨p, q, rfl, by rw [f p (by simp)]; exact h1, by rw [f q (by simp)]; exact h2, rfl⟩
/-- the same without the list: it stands at q -/
def stA (q : Addr) : Stor Int where
  rel := fun _ _ H fp v n => ∃ p, v = .ref p ∧ H p = some (.lst [.int n, .ref q]) ∧ fp = [p]
  monoF := fun _ h => h
  frame := fun f h => by
    obtain ⟨p, rfl, h1, rfl⟩ := h
    exact ⟨p, rfl, by rw [f p (by simp)]; exact h1, rfl⟩
section
variable {C : Ck} {F H : Hp} {σ : List (Option V)} {env : Env}
/-- the list of a state under a name of its own -/
theorem ER.split {i j : Nat} {w : V} {t : TSt} (h : ER C F H σ env) (e : env[i]? = some (.st (some w) TSt stT t)) (ej : env[j]? = some .un) : ∃ p q, σ[i]? = some (some (.ref p)) ∧ H p = some (.lst [.int t.1, .ref q]) ∧
    ER C F H (σ.set j (some (.ref q))) ((env.set i (.st (some w) Int (stA q) t.1)).set j (.st (some (.ref q)) (List Int) (ls (it eI)) t.2)) := by
  obtain ⟨fp, k⟩ := h.sl
  have hi := lt_of_get e
  have hj := lt_of_get ej
  have ne : i ≠ j := fun z => by subst z; rw [e] at ej; cases ej
  obtain ⟨v, e1, ⟨p, q, rfl, h1, h2, hf⟩, e2, k2⟩ := k.ok i _ e
  have e1' : σ[i]? = some (some (.ref p)) := by
    cases z : σ[i]? with
    | none => rw [z] at e1; cases e1
    | some o => rw [z] at e1; exact congrArg some e1
  have own := k.own i hi
  have nd := k.nd i hi
  rw [hf] at own nd k2
  have hpq : p ≠ q := by simpa using nd
  have mem : ∀ a, (a = p ∨ a = q) → a ∈ fp i := fun a m => by rw [hf]; simpa using m
  refine ⟨p, q, e1', h1, h.sB, h.sF, h.gr, h.up, by simp [h.len], fun l => if l = i then [p] else if l = j then [q] else fp l, fun l s el => ?_, fun l hl a ha => ?_, fun l m hl hm a ha hb => ?_, fun l hl => ?_⟩
  · by_cases zj : l = j
    · subst zj
      rw [List.getElem?_set_self (by simpa using hj)] at el
      cases el
      simp only [if_neg (fun z : l = i => ne z.symm), if_pos]
      have hls : l < σ.length := by rw [h.len]; exact hj
      refine ⟨.ref q, by rw [List.getElem?_set_self hls]; rfl, ⟨q, t.2.map V.int, [], rfl, h2, (RepAll.ofInts t.2).zero, rfl⟩, rfl, fun a m => ?_⟩
      simp at m; subst m
      exact k2 a (by simp)
    · rw [List.getElem?_set_ne (fun z => zj z.symm)] at el
      by_cases zi : l = i
      · subst zi
        rw [List.getElem?_set_self hi] at el
        cases el
        simp only [if_pos]
        refine ⟨.ref p, by rw [List.getElem?_set_ne (fun z => zj z.symm)]; exact e1, ⟨p, rfl, h1, rfl⟩, e2, fun a m => ?_⟩
        simp at m; subst m
        exact k2 a (by simp)
      · rw [List.getElem?_set_ne (fun z => zi z.symm)] at el
        simp only [if_neg zi, if_neg zj]
        rw [List.getElem?_set_ne (fun z => zj z.symm)]
        exact k.ok l s el
  · have hl' : l < env.length := by simpa using hl
    by_cases zi : l = i
    · simp only [if_pos zi] at ha
      simp at ha; subst ha
      exact own a (by simp)
    · simp only [if_neg zi] at ha
      by_cases zj : l = j
      · simp only [if_pos zj] at ha
        simp at ha; subst ha
        exact own a (by simp)
      · simp only [if_neg zj] at ha
        exact k.own l hl' a ha
  · have hl' : l < env.length := by simpa using hl
    have hm' : m < env.length := by simpa using hm
    have cl : ∀ l, l < env.length → a ∈ (if l = i then [p] else if l = j then [q] else fp l) → (l = i ∧ a = p) ∨ (l = j ∧ a = q) ∨ (l ≠ i ∧ l ≠ j ∧ a ∈ fp l) := fun l hl ha => by
      by_cases zi : l = i
      · simp only [if_pos zi] at ha; simp at ha; exact .inl ⟨zi, ha⟩
      · simp only [if_neg zi] at ha
        by_cases zj : l = j
        · simp only [if_pos zj] at ha; simp at ha; exact .inr (.inl ⟨zj, ha⟩)
        · simp only [if_neg zj] at ha; exact .inr (.inr ⟨zi, zj, ha⟩)
    rcases cl l hl' ha with ⟨a1, a2⟩ | ⟨a1, a2⟩ | ⟨a1, a2, a3⟩
    · rcases cl m hm' hb with ⟨b1, b2⟩ | ⟨b1, b2⟩ | ⟨b1, b2, b3⟩
      · rw [a1, b1]
      · exact absurd (a2.symm.trans b2) hpq
      · exact absurd (k.sep m i hm' hi a b3 (mem a (.inl a2))) b1
    · rcases cl m hm' hb with ⟨b1, b2⟩ | ⟨b1, b2⟩ | ⟨b1, b2, b3⟩
      · exact absurd (b2.symm.trans a2) hpq
      · rw [a1, b1]
      · exact absurd (k.sep m i hm' hi a b3 (mem a (.inr a2))) b1
    · rcases cl m hm' hb with ⟨b1, b2⟩ | ⟨b1, b2⟩ | ⟨b1, b2, b3⟩
      · exact absurd (k.sep l i hl' hi a a3 (mem a (.inl b2))) a1
      · exact absurd (k.sep l i hl' hi a a3 (mem a (.inr b2))) a1
      · exact k.sep l m hl' hm' a a3 b3
  · have hl' : l < env.length := by simpa using hl
    by_cases zi : l = i
    · simp only [if_pos zi]; simp
    · simp only [if_neg zi]
      by_cases zj : l = j
      · simp only [if_pos zj]; simp
      · simp only [if_neg zj]; exact k.nd l hl'
/-- .. and together again -/
theorem ER.join {i j : Nat} {w : V} {q : Addr} {n : Int} {cs : List Int} (h : ER C F H σ env) (e : env[i]? = some (.st (some w) Int (stA q) n)) (ej : env[j]? = some (.st (some (.ref q)) (List Int) (ls (it eI)) cs)) :
    ER C F H σ ((env.set i (.st (some w) TSt stT (n, cs))).set j .un) := by
  obtain ⟨fp, k⟩ := h.sl
  have hi := lt_of_get e
  have hj := lt_of_get ej
  obtain ⟨v, e1, ⟨p, rfl, h1, hf⟩, e2, k2⟩ := k.ok i _ e
  obtain ⟨u, u1, ⟨q', vs, fps, rfl, h2, ra, hg⟩, u2, u3⟩ := k.ok j _ ej
  have hq : q' = q := by cases u2; rfl
  subst hq
  obtain ⟨rfl, rp⟩ := ra.zero
  have hv := rp.ints
  subst hv
  have ne : i ≠ j := fun z => by
    subst z
    rw [e1] at u1
    have e3 : p = q' := by
      have := Option.some.inj u1
      cases this; rfl
    subst e3
    rw [h1] at h2
    have e4 := Option.some.inj h2
    have e5 : [V.int n, V.ref p] = cs.map V.int := by injection e4
    cases cs with
    | nil => simp at e5
    | cons a cs => cases cs with
      | nil => simp at e5
      | cons b cs => simp at e5
  have ownp := k.own i hi p (by rw [hf]; simp)
  have ownq := k.own j hj q' (by rw [hg]; simp)
  have hpq : p ≠ q' := fun z => by
    subst z
    exact ne (k.sep i j hi hj p (by rw [hf]; simp) (by rw [hg]; simp))
  refine ⟨h.sB, h.sF, h.gr, h.up, by simp [h.len], fun l => if l = i then [p, q'] else if l = j then [] else fp l, fun l s el => ?_, fun l hl a ha => ?_, fun l m hl hm a ha hb => ?_, fun l hl => ?_⟩
  · by_cases zj : l = j
    · subst zj
      rw [List.getElem?_set_self (by simpa using hj)] at el
      cases el
      simp only [if_neg (fun z : l = i => ne z.symm), if_pos]
      rfl
    · rw [List.getElem?_set_ne (fun z => zj z.symm)] at el
      by_cases zi : l = i
      · subst zi
        rw [List.getElem?_set_self hi] at el
        cases el
        simp only [if_pos]
        refine ⟨.ref p, e1, ⟨p, q', rfl, h1, h2, rfl⟩, e2, fun a m => ?_⟩
        simp at m
        rcases m with rfl | rfl
        · exact k2 a (by rw [hf]; simp)
        · exact u3 a (by rw [hg]; simp)
      · rw [List.getElem?_set_ne (fun z => zi z.symm)] at el
        simp only [if_neg zi, if_neg zj]
        exact k.ok l s el
  · have hl' : l < env.length := by simpa using hl
    by_cases zi : l = i
    · simp only [if_pos zi] at ha
      simp at ha
      rcases ha with rfl | rfl
      · exact ownp
      · exact ownq
    · simp only [if_neg zi] at ha
      by_cases zj : l = j
      · simp [if_pos zj] at ha
      · simp only [if_neg zj] at ha
        exact k.own l hl' a ha
  · have hl' : l < env.length := by simpa using hl
    have hm' : m < env.length := by simpa using hm
    have cl : ∀ l, l < env.length → a ∈ (if l = i then [p, q'] else if l = j then [] else fp l) → (l = i ∧ (a ∈ fp i ∨ a ∈ fp j)) ∨ (l ≠ i ∧ l ≠ j ∧ a ∈ fp l) := fun l hl ha => by
      by_cases zi : l = i
      · simp only [if_pos zi] at ha; simp at ha
        refine .inl ⟨zi, ?_⟩
        rcases ha with rfl | rfl
        · exact .inl (by rw [hf]; simp)
        · exact .inr (by rw [hg]; simp)
      · simp only [if_neg zi] at ha
        by_cases zj : l = j
        · simp [if_pos zj] at ha
        · simp only [if_neg zj] at ha; exact .inr ⟨zi, zj, ha⟩
    rcases cl l hl' ha with ⟨a1, a2⟩ | ⟨a1, a2, a3⟩
    · rcases cl m hm' hb with ⟨b1, b2⟩ | ⟨b1, b2, b3⟩
      · rw [a1, b1]
      · rcases a2 with a2 | a2
        · exact absurd (k.sep m i hm' hi a b3 a2) b1
        · exact absurd (k.sep m j hm' hj a b3 a2) b2
    · rcases cl m hm' hb with ⟨b1, b2⟩ | ⟨b1, b2, b3⟩
      · rcases b2 with b2 | b2
        · exact absurd (k.sep l i hl' hi a a3 b2) a1
        · exact absurd (k.sep l j hl' hj a a3 b2) a2
      · exact k.sep l m hl' hm' a a3 b3
  · have hl' : l < env.length := by simpa using hl
    by_cases zi : l = i
    · simp only [if_pos zi]; simp [hpq]
    · simp only [if_neg zi]
      by_cases zj : l = j
      · simp [if_pos zj]
      · simp only [if_neg zj]; exact k.nd l hl'
/-- a new state of a number and a list -/
theorem ER.joinTop {p q : Addr} {n : Int} {cs : List Int} (h : ER C F H (some (.ref p) :: some (.ref q) :: σ) (.st none Int (stA q) n :: .st none (List Int) (ls (it eI)) cs :: env)) : ER C F H (some (.ref p) :: σ) (.st none TSt stT (n, cs) :: env) := by
  obtain ⟨fp, k⟩ := h.sl
  obtain ⟨v, e1, ⟨p', rfl, h1, hf⟩, k2⟩ := k.ok 0 _ rfl
  simp at e1; subst e1
  obtain ⟨u, u1, ⟨q', vs, fps, rfl, h2, ra, hg⟩, u3⟩ := k.ok 1 _ rfl
  simp at u1; subst u1
  obtain ⟨rfl, rp⟩ := ra.zero
  have hv := rp.ints
  subst hv
  have l0 : 0 < (Slot.st none Int (stA q) n :: Slot.st none (List Int) (ls (it eI)) cs :: env).length := by simp
  have l1 : 1 < (Slot.st none Int (stA q) n :: Slot.st none (List Int) (ls (it eI)) cs :: env).length := by simp
  have ownp := k.own 0 l0 p (by rw [hf]; simp)
  have ownq := k.own 1 l1 q (by rw [hg]; simp)
  have hpq : p ≠ q := fun z => by
    subst z
    have := k.sep 0 1 l0 l1 p (by rw [hf]; simp) (by rw [hg]; simp)
    omega
  have hp := h.pop.pop
  refine ⟨hp.sB, hp.sF, hp.gr, hp.up, by simp [hp.len], _, Fps.push (fp := fun l => fp (l + 2)) ⟨fun l s el => ?_, fun l hl a ha => ?_, fun l m hl hm a ha hb => ?_, fun l hl => ?_⟩ (fq := [p, q]) ⟨_, rfl, ⟨p, q, rfl, h1, h2, rfl⟩, fun a m => ?_⟩ (fun a m => ?_) (by simp [hpq]) fun l hl a ha m => ?_⟩
  · have := k.ok (l + 2) s (by simpa using el)
    simpa using this
  · exact k.own (l + 2) (by simpa using hl) a ha
  · have := k.sep (l + 2) (m + 2) (by simpa using hl) (by simpa using hm) a ha hb
    omega
  · exact k.nd (l + 2) (by simpa using hl)
  · simp at m
    rcases m with rfl | rfl
    · exact k2 a (by rw [hf]; simp)
    · exact u3 a (by rw [hg]; simp)
  · simp at m
    rcases m with rfl | rfl
    · exact ownp
    · exact ownq
  · simp at m
    rcases m with rfl | rfl
    · have := k.sep (l + 2) 0 (by simpa using hl) l0 a ha (by rw [hf]; simp); omega
    · have := k.sep (l + 2) 1 (by simpa using hl) l1 a ha (by rw [hg]; simp); omega
end
section
variable {X : Cx} {R I Ω : Type} {SR : Stor R} {envR : I → Env} {kr : R → I → Option Ω} {bk ct : Lp Ω} {env : Env} {nm nm2 : Str} {pos : Pos} {a b e : Expr} {rest : List Stmt} {P P1 P2 : Type} {J : Type} {envJ : J → Env} {e' : P → Env} {e1 : P1 → Env} {e2 : P1 → P2 → Env}
/-- cells = state[1] -/
theorem lb_alias {f : (J → Option Ω) → Option Ω} {w : V} {t : TSt} {p1 p2 cp sp : Pos} {k : Nat} (i j : Nat) (hN : X.N.Nodup) (he : env[i]? = some (.st (some w) TSt stT t)) (hj : env[j]? = some .un)
    (hr : ∀ q, LB X SR envR kr bk ct ((env.set i (.st (some w) Int (stA q) t.1)).set j (.st (some (.ref q)) (List Int) (ls (it eI)) t.2)) rest envJ f)
    (hi : X.N[i]? = some nm := by rfl) (hv_nm : Vis X.env.scope nm := by first | exact Or.inl rfl | exact Or.inr (Or.inl rfl) | exact Or.inr (Or.inr rfl)) (hd : (nm == ("__debug__" : Str)) = false := by decide) (hcd : (nm == ("__classdict__" : Str)) = false := by decide)
    (hi2 : X.N[j]? = some nm2 := by rfl) (hx : Loc X.env.scope nm2 := by first | exact Or.inl rfl | exact Or.inr rfl) (hf : X.fn nm2 = true ∨ X.env.scope.names.lookup nm2 = some .local := by first | exact .inl rfl | exact .inr rfl)
    (hs : swapsWith (.Subscript (.Name nm p1) (.Constant (.int 1) k cp) sp) (some (.Name nm2 p2)) pos.line X.env = pure false := by rfl) :
    LB X SR envR kr bk ct env (.Assign [.Name nm2 p2] (.Subscript (.Name nm p1) (.Constant (.int 1) k cp) sp) pos :: rest) envJ f :=
  fun C F H σs es σ kn ω D hK hl h hk qn qb qc qr => tSs.of X (pss_cons (ps_set hN hi2 hx (pe_ix ix_list (pe_var hi hv_nm hd hcd) pe_int fun _ _ => rfl) hs hf) (pssC X)) (by
    obtain ⟨p, q, s1, h1, h2⟩ := h.split (i := es.length + i) (j := es.length + j) (by rw [at_app _ rfl]; exact he) (by rw [at_app _ rfl]; exact hj)
    rw [at_app _ hl] at s1
    rw [← hl, List.set_append_right _ _ (Nat.le_add_right _ _), Nat.add_sub_cancel_left, hl, List.set_append_right _ _ (Nat.le_add_right _ _), Nat.add_sub_cancel_left, List.set_append_right _ _ (Nat.le_add_right _ _), Nat.add_sub_cancel_left] at h2
    exact ⟨_, s1, p, [.int t.1, .ref q], 1, .ref q, rfl, rfl, SqL.of h1, rfl, hr q C F H σs es _ kn ω D hK hl h2 hk qn qb qc qr⟩)
/-- the list is the state's again -/
theorem lb_join {sts : List Stmt} {f : (J → Option Ω) → Option Ω} {w : V} {q : Addr} {n : Int} {cs : List Int} (i j : Nat) (he : env[i]? = some (.st (some w) Int (stA q) n)) (hj : env[j]? = some (.st (some (.ref q)) (List Int) (ls (it eI)) cs))
    (hr : LB X SR envR kr bk ct ((env.set i (.st (some w) TSt stT (n, cs))).set j .un) sts envJ f) : LB X SR envR kr bk ct env sts envJ f :=
  fun C F H σs es σ kn ω D hK hl h hk qn qb qc qr => by
    have h2 := h.join (i := es.length + i) (j := es.length + j) (by rw [at_app _ rfl]; exact he) (by rw [at_app _ rfl]; exact hj)
    rw [List.set_append_right _ _ (Nat.le_add_right _ _), Nat.add_sub_cancel_left, List.set_append_right _ _ (Nat.le_add_right _ _), Nat.add_sub_cancel_left] at h2
    exact hr C F H σs es σ kn ω D hK hl h2 hk qn qb qc qr
/-- state[0] -/
theorem lx_st0 {w : Option V} {q : Addr} {n : Int} {p1 cp sp : Pos} {k : Nat} (i : Nat) (he : env[i]? = some (.st w Int (stA q) n)) (hi : X.N[i]? = some nm := by rfl) (hv_nm : Vis X.env.scope nm := by first | exact Or.inl rfl | exact Or.inr (Or.inl rfl) | exact Or.inr (Or.inr rfl)) (hd : (nm == ("__debug__" : Str)) = false := by decide) (hcd : (nm == ("__classdict__" : Str)) = false := by decide) :
    LX X env (.Subscript (.Name nm p1) (.Constant (.int 0) k cp) sp) (it eI) (fun _ : Unit => env) (fun (k : Int → Unit → Option Ω) => k n ()) :=
  fun C F H σs es σ k ω Q hK hl h hk q => tE.of X (pe_ix ix_list (pe_var hi hv_nm hd hcd) pe_int fun _ _ => rfl) (by
    obtain ⟨v, fp, e1, p, rfl, h1, _⟩ := h.lookF hl he
    exact ⟨_, e1, p, _, 0, .int n, rfl, rfl, SqL.of h1, rfl, q n () _ F H hk (h.pushSh (.int n))⟩)
/-- state[0] = e -/
theorem lb_st0 {f : (Int → P → Option Ω) → Option Ω} {fr : Int → P → (J → Option Ω) → Option Ω} {w : Option V} {q : Addr} {n : P → Int} {p1 cp sp : Pos} {k : Nat} (i : Nat) (he : LX X env e (it eI) e' f) (h1 : ∀ p, (e' p)[i]? = some (.st w Int (stA q) (n p)))
    (hr : ∀ y p, LB X SR envR kr bk ct ((e' p).set i (.st w Int (stA q) y)) rest envJ (fr y p)) (hi : X.N[i]? = some nm := by rfl) (hv_nm : Vis X.env.scope nm := by first | exact Or.inl rfl | exact Or.inr (Or.inl rfl) | exact Or.inr (Or.inr rfl)) (hd : (nm == ("__debug__" : Str)) = false := by decide) (hcd : (nm == ("__classdict__" : Str)) = false := by decide)
    (ha : ∀ v, assign (.Subscript (.Name nm p1) (.Constant (.int 0) k cp) sp) X.env v = (do
      let ov ← holding [v] (eval (.Name nm p1) X.env)
      let iv ← holding [v, ov] (eval (.Constant (.int 0) k cp) X.env)
      standAt sp
      holding [v, ov, iv] (setItem ov iv v)
      release [v, ov, iv] []) := by intro _; rfl)
    (hs : swapsWithSole [.Subscript (.Name nm p1) (.Constant (.int 0) k cp) sp] e pos.line X.env = pure false := by rfl) (hw : swappedStores [.Subscript (.Name nm p1) (.Constant (.int 0) k cp) sp] e X.env = pure none := by rfl) (ha1 : (assignEach [.Subscript (.Name nm p1) (.Constant (.int 0) k cp) sp] X.env).map (·.2) = [assign (.Subscript (.Name nm p1) (.Constant (.int 0) k cp) sp) X.env] := by rfl) :
    LB X SR envR kr bk ct env (.Assign [.Subscript (.Name nm p1) (.Constant (.int 0) k cp) sp] e pos :: rest) envJ (fun kn => f fun y p => fr y p kn) :=
  fun C F H σs es σ kn ω D hK hl h hk qn qb qc qr => tSs.of X (pss_cons (ps_asg (peC X) (pg_sub (pe_var hi hv_nm hd hcd) pe_int set_list ha) hs hw ha1) (pssC X)) (he C F H σs es σ _ ω _ hK hl h hk fun y p v F' H' hk' h' => by
    have hvy : v = .int y := by
      obtain ⟨v', fp, e1, r⟩ := h'.look (i := 0) rfl
      simp at e1; subst e1
      obtain ⟨_, r⟩ := r
      cases r; rfl
    subst hvy
    obtain ⟨l, fp, e1, r1, nd, ow, fin⟩ := (ER.pop h').mut (i := es.length + i) (by rw [at_app _ rfl]; exact h1 p)
    rw [at_app _ hl] at e1
    obtain ⟨p0, rfl, h2, rfl⟩ := r1
    refine ⟨_, e1, p0, _, 0, 0, rfl, rfl, h2, rfl, ?_⟩
    have fin' := fin Int (stA q) y (upd H' p0 (.lst [.int y, .ref q])) [p0] (fun a na _ => upd_ne fun z => na (by rw [z]; simp)) (fun a m => ?_) ⟨p0, rfl, upd_same, rfl⟩ (by simp) (fun a m => ?_)
    · rw [List.set_append_right _ _ (Nat.le_add_right _ _), Nat.add_sub_cancel_left] at fin'
      exact hr y p C F' _ σs es σ kn ω D hK hl fin' hk' qn qb qc qr
    · by_cases z : a = p0
      · subst z; rw [upd_same]; exact fun z => by cases z
      · rw [upd_ne z]; exact m
    · simp at m; subst m
      exact ⟨by rw [upd_same]; exact (fun z => by cases z), .inl (by simp)⟩)
/-- [n, cells] -/
theorem lx_st {fa : (Int → P1 → Option Ω) → Option Ω} {fb : P1 → (List Int → P2 → Option Ω) → Option Ω} (ha : LX X env a (it eI) e1 fa) (hb : ∀ p, LX X (e1 p) b (ls (it eI)) (e2 p) (fb p))
    (hs : starEach [a, b] X.env = (false, eval a X.env) :: starEach [b] X.env := by rfl) (hs2 : starEach [b] X.env = (false, eval b X.env) :: starEach [] X.env := by rfl) :
    LX X env (.List [a, b] pos) stT (fun p : P1 × P2 => e2 p.1 p.2) (fun k => fa fun x p1 => fb p1 fun y p2 => k (x, y) (p1, p2)) :=
  fun C F H σs es σ k ω Q hK hl h hk q => tE.of X (pe_lst (pa_cons (peC X) (pa_cons (peC X) pa_nil hs2) hs)) (ha C F H σs es σ _ ω _ hK hl h hk fun x p1 v F1 H1 hk1 h1 =>
    hb p1 C F1 H1 (some v :: σs) (.st none Int (it eI) x :: es) σ _ ω _ hK (by simp [hl]) h1 hk1 fun y p2 u F2 H2 hk2 h2 => by
      have hvx : v = .int x := by
        obtain ⟨v', fp, e1, r⟩ := h2.look (i := 1) rfl
        simp at e1; subst e1
        obtain ⟨_, r⟩ := r
        cases r; rfl
      subst hvx
      obtain ⟨u', fp, e1, q0, vs, fps, rfl, hq, _, _⟩ := h2.look (i := 0) rfl
      simp at e1; subst e1
      refine ⟨by show 2 ≤ sizeLine; rw [SZ_eq]; decide, fun t nt => ?_⟩
      have z2 : ER C F2 H2 ([some (.ref q0)] ++ some (.int x) :: (σs ++ σ)) ([.st none (List Int) (ls (it eI)) y] ++ .st none Int (it eI) x :: (es ++ e2 p1 p2)) := h2
      have h3 : ER C F2 H2 (some (.ref q0) :: (σs ++ σ)) (.st none (List Int) (ls (it eI)) y :: (es ++ e2 p1 p2)) := ER.pop (ER.rot z2 rfl)
      have h4 := h3.newOw (S := stA q0) (x := x) (v := .ref t) nt ⟨t, rfl, upd_same, rfl⟩
      exact q (x, y) (p1, p2) (.ref t) F2 _ hk2 h4.joinTop)
/-- x, y = a, b -/
theorem lb_par {τ1 τ2 : Type} {S1 : Stor τ1} {S2 : Stor τ2} {f : ((τ1 × τ2 × Unit) → P → Option Ω) → Option Ω} {fr : τ1 → τ2 → P → (J → Option Ω) → Option Ω} {px py pt : Pos} {kt k2 : Nat} {pt2 : Pos} (i j : Nat) (hN : X.N.Nodup) (hc : X.calm = true) (ha : LA X env [a, b] (fun p : τ1 × τ2 × Unit => [.st none τ1 S1 p.1, .st none τ2 S2 p.2.1]) e' f)
    (hr : ∀ x y p, LB X SR envR kr bk ct (((e' p).set i (.st none τ1 S1 x)).set j (.st none τ2 S2 y)) rest envJ (fr x y p))
    (hi : X.N[i]? = some nm := by rfl) (hj : X.N[j]? = some nm2 := by rfl) (hij : i ≠ j := by decide) (hx : X.env.scope.names.lookup nm = some .local := by rfl) (hy : X.env.scope.names.lookup nm2 = some .local := by rfl)
    (hli : ∀ p, i < (e' p).length := by exact (fun _ => Nat.lt_of_sub_eq_succ rfl)) (hlj : ∀ p, j < (e' p).length := by exact (fun _ => Nat.lt_of_sub_eq_succ rfl))
    (hw : swappedStores [.Tuple [.Name nm px, .Name nm2 py] kt pt] (.Tuple [a, b] k2 pt2) X.env = pure (some [nm, nm2]) := by rfl)
    (hs : swapsWithSole [.Tuple [.Name nm px, .Name nm2 py] kt pt] (.Tuple [a, b] k2 pt2) pos.line X.env = pure false := by rfl) :
    LB X SR envR kr bk ct env (.Assign [.Tuple [.Name nm px, .Name nm2 py] kt pt] (.Tuple [a, b] k2 pt2) pos :: rest) envJ (fun kn => f fun r p => fr r.1 r.2.1 p kn) :=
  fun C F H σs es σ kn ω D hK hl h hk qn qb qc qr => tSs.of X (pss_cons (ps_par hc hN hi hj hij hx hy (paC X) hw hs) (pssC X)) (ha C F H σs es σ _ ω _ hK hl h hk fun r p vs F' H' hk' hv h' => by
    match vs, hv with
    | [v, u], _ =>
      refine ⟨v, u, rfl, ?_⟩
      have h2 := ER.asg (σs := some u :: σs) (es := .st none τ2 S2 r.2.1 :: es) (σ := σ) (env := e' p) h' (by simp [hl]) (hli p)
      have h3 := ER.asg (σs := σs) (es := es) (σ := σ.set i (some v)) h2 hl (by simpa using hlj p)
      exact hr r.1 r.2.1 p C F' H' σs es _ kn ω D hK hl h3 hk' qn qb qc qr)
/-- from a law's call to its def's promise -/
theorem law_sp {K : Fg} {H : Hp} {a : Addr} {ns : List Int} {m : List Int × Unit → Option Bool} {Q : VK} {E : XK} (hS : SqL K H a (ns.map V.int)) (hm : m (ns, ()) = some true) (q : ∀ H', Q (.bl true) H') :
    spP K (fun a : List Int × Unit => [.st none (List Int) scr a.1]) (it eB) m [.ref a] H Q E := by
  refine ⟨H, H, (ns, ()), true, hm, rfl, ⟨fun _ _ e => e, fun _ _ e => e, fun _ m => .inl m, fun _ m => m, rfl, fun _ => [], fun i s e => ?_, fun i hi a ha => (nomatch ha), fun i j _ _ a ha => (nomatch ha), fun i _ => List.nodup_nil⟩, fun F' H' v h => ?_⟩
  · match i, e with
    | 0, e =>
      cases e
      exact ⟨_, rfl, ⟨rfl, a, rfl, hS⟩, fun _ m => nomatch m⟩
    | i + 1, e => simp at e
  · have hv : v = .bl true := by
      obtain ⟨v', fp, e1, r⟩ := h.look (i := 0) rfl
      simp at e1; subst e1
      obtain ⟨_, r⟩ := r
      cases r; rfl
    rw [hv]; exact q H'
end
end Z

set_option Elab.async false
set_option linter.all false
set_option maxRecDepth 100000
namespace Z
open PySem PySem.Spec PyProof.Rows L2

/-! ### the mirrors in plain words -/
section
variable {α β S Ω : Type}
theorem ixN_nat {n i : Nat} (h : i < n) : ixN n (i : Int) = some i := by
  unfold ixN
  rw [if_pos (by omega), if_pos (by omega), Int.toNat_natCast]
theorem atI_nat {xs : List α} {i : Nat} (h : i < xs.length) : atI xs (i : Int) = some xs[i] := by
  unfold atI
  rw [ixN_nat h]
  exact List.getElem?_eq_getElem h
theorem atI_pos {xs : List α} {i : Int} (h0 : 0 ≤ i) (h1 : i < xs.length) : ∃ (k : Nat) (h : k < xs.length), i = k ∧ atI xs i = some xs[k] :=
  by
  obtain ⟨k, rfl⟩ := Int.eq_ofNat_of_zero_le h0
  exact ⟨k, by omega, rfl, atI_nat (by omega)⟩
theorem rangeL_nat (n : Nat) : rangeL 0 (n : Int) = (List.range n).map fun i : Nat => ((i : Nat) : Int) := by
  unfold rangeL
  simp
theorem mem_rangeL {n : Nat} {x : Int} : x ∈ rangeL 0 (n : Int) ↔ ∃ i : Nat, i < n ∧ x = i := by
  rw [rangeL_nat]
  simp only [List.mem_map, List.mem_range]
  exact ⟨fun ⟨i, h, e⟩ => ⟨i, h, e.symm⟩, fun ⟨i, h, e⟩ => ⟨i, h, e.symm⟩⟩
theorem rgOk_nat {n : Nat} (h : n < 2 ^ 62) : rgOk 0 (n : Int) = true := by
  unfold rgOk
  have h2 : (n : Int) < 2 ^ 62 := by exact_mod_cast h
  exact decide_eq_true ⟨by decide, by decide, by omega, h2⟩
theorem mulOk_l {i j : Int} (h0 : 0 ≤ i) (h : i < 2 ^ 64) : mulOk i j = true := decide_eq_true (.inl ⟨by omega, h⟩)
theorem mulOk_r {i j : Int} (h0 : 0 ≤ j) (h : j < 2 ^ 64) : mulOk i j = true := decide_eq_true (.inr ⟨by omega, h⟩)
theorem divOk_pos {j : Int} (h0 : 0 < j) (h : j < 1073741824) : divOk j = true := decide_eq_true ⟨by omega, by omega⟩
theorem modOk_pos {j : Int} (h0 : 0 < j) : modOk j = true := decide_eq_true (by omega)
theorem ck_wp {b : Bool} {k : Option Ω} {ω : Ω} (h : b = true) (hk : k = some ω) : ck b k = some ω := by rw [h]; exact hk
theorem bind_wp {o : Option α} {k : α → Option Ω} {ω : Ω} {a : α} (h : o = some a) (hk : k a = some ω) : o.bind k = some ω := by rw [h]; exact hk
/-- a for, by an invariant over the turns -/
theorem forO_wpN {ω : Ω} (Inv : Nat → S → Prop) {b : α → S → (S → Option Ω) → Option Ω} {k : S → Option Ω} : ∀ (xs : List α) (n : Nat) (s : S), Inv n s →
    (∀ i s x, xs[i]? = some x → Inv (n + i) s → ∀ kc : S → Option Ω, (∀ s', Inv (n + i + 1) s' → kc s' = some ω) → b x s kc = some ω) → (∀ s, Inv (n + xs.length) s → k s = some ω) → forO xs s b k = some ω
  | [], n, s, h0, _, he => he s h0
  | x :: xs, n, s, h0, hs, he => hs 0 s x rfl h0 _ fun s' h' => forO_wpN Inv xs (n + 1) s' h'
      (fun i s y e h kc hk => hs (i + 1) s y e (by rw [show n + (i + 1) = n + 1 + i by omega]; exact h) kc fun s' h' => hk s' (by rw [show n + 1 + i + 1 = n + (i + 1) + 1 by omega]; exact h'))
      fun s h => he s (by rw [show n + (x :: xs).length = n + 1 + xs.length by simp; omega]; exact h)
/-- .. by one that stays -/
theorem forO_wp {ω : Ω} (Inv : S → Prop) {b : α → S → (S → Option Ω) → Option Ω} {k : S → Option Ω} {xs : List α} {s : S} (h0 : Inv s)
    (hs : ∀ s x, x ∈ xs → Inv s → ∀ kc : S → Option Ω, (∀ s', Inv s' → kc s' = some ω) → b x s kc = some ω) (he : ∀ s, Inv s → k s = some ω) : forO xs s b k = some ω :=
  forO_wpN (fun _ => Inv) xs 0 s h0 (fun i s x e h kc hk => hs s x (List.mem_of_getElem? e) h kc hk) he
theorem forO_fold (g : S → α → S) {b : α → S → (S → Option Ω) → Option Ω} {k : S → Option Ω} : ∀ (xs : List α) (s : S), (∀ x ∈ xs, ∀ s kc, b x s kc = kc (g s x)) → forO xs s b k = k (xs.foldl g s)
  | [], s, _ => rfl
  | x :: xs, s, h => (h x (List.mem_cons_self ..) s _).trans (forO_fold g xs (g s x) fun y m => h y (List.mem_cons_of_mem _ m))
/-- two walks that go alike: both end with one answer, or both go on -/
theorem forO_two {Pr : Ω → Prop} {b1 b2 : α → Unit → (Unit → Option Ω) → Option Ω} : ∀ (xs : List α), (∀ x ∈ xs, (∃ r, Pr r ∧ ∀ k1 k2, b1 x () k1 = some r ∧ b2 x () k2 = some r) ∨ (∀ k1 k2, b1 x () k1 = k1 () ∧ b2 x () k2 = k2 ())) →
    (∃ r, Pr r ∧ ∀ k1 k2, forO xs () b1 k1 = some r ∧ forO xs () b2 k2 = some r) ∨ (∀ k1 k2, forO xs () b1 k1 = k1 () ∧ forO xs () b2 k2 = k2 ())
  | [], _ => .inr fun _ _ => ⟨rfl, rfl⟩
  | x :: xs, h => by
    rcases h x (List.mem_cons_self ..) with ⟨r, hr, h1⟩ | h1
    · exact .inl ⟨r, hr, fun k1 k2 => h1 _ _⟩
    · rcases forO_two xs (fun y m => h y (List.mem_cons_of_mem _ m)) with ⟨r, hr, h2⟩ | h2
      · exact .inl ⟨r, hr, fun k1 k2 => ⟨(h1 (fun _ => forO xs () b1 k1) (fun _ => forO xs () b2 k2)).1.trans (h2 k1 k2).1, (h1 (fun _ => forO xs () b1 k1) (fun _ => forO xs () b2 k2)).2.trans (h2 k1 k2).2⟩⟩
      · exact .inr fun k1 k2 => ⟨(h1 (fun _ => forO xs () b1 k1) (fun _ => forO xs () b2 k2)).1.trans (h2 k1 k2).1, (h1 (fun _ => forO xs () b1 k1) (fun _ => forO xs () b2 k2)).2.trans (h2 k1 k2).2⟩
/-- a walk that always goes on -/
theorem forO_skip {b : α → Unit → (Unit → Option Ω) → Option Ω} {k : Unit → Option Ω} : ∀ (xs : List α), (∀ x ∈ xs, ∀ kc, b x () kc = kc ()) → forO xs () b k = k ()
  | [], _ => rfl
  | x :: xs, h => (h x (List.mem_cons_self ..) _).trans (forO_skip xs fun y m => h y (List.mem_cons_of_mem _ m))
/-- a comprehension, by an invariant -/
theorem compO_wp {ω : Ω} (Inv : S → Prop) (Pe : β → Prop) {b : α → S → (Option β → S → Option Ω) → Option Ω} {k : List β → S → Option Ω} : ∀ (xs : List α) (s : S) (acc : List β), Inv s → (∀ y ∈ acc, Pe y) → acc.length + xs.length ≤ SZ →
    (∀ s x, x ∈ xs → Inv s → ∀ kc : Option β → S → Option Ω, (∀ y s', Pe y → Inv s' → kc (some y) s' = some ω) → b x s kc = some ω) → (∀ ys s, ys.length = acc.length + xs.length → (∀ y ∈ ys, Pe y) → Inv s → k ys s = some ω) → compO xs s b acc k = some ω
  | [], s, acc, h0, ha, _, _, he => he acc s rfl ha h0
  | x :: xs, s, acc, h0, ha, hl, hs, he => hs s x (List.mem_cons_self ..) h0 _ fun y s' hy h' => by
    have hl' : acc.length + 1 + xs.length ≤ SZ := by simpa [Nat.add_assoc, Nat.add_comm 1] using hl
    refine ck_wp (decide_eq_true (by omega)) (compO_wp Inv Pe xs s' (acc ++ [y]) h' (fun z m => ?_) (by simpa using hl') (fun s z m => hs s z (List.mem_cons_of_mem _ m)) fun ys s e => he ys s (by simp at e ⊢; omega))
    rcases List.mem_append.1 m with m | m
    · exact ha z m
    · simp at m; subst m; exact hy
/-- .. that maps -/
theorem compO_map (g : α → β) {b : α → S → (Option β → S → Option Ω) → Option Ω} {k : List β → S → Option Ω} (s : S) : ∀ (xs : List α) (acc : List β), acc.length + xs.length ≤ SZ → (∀ x ∈ xs, ∀ kc, b x s kc = kc (some (g x)) s) → compO xs s b acc k = k (acc ++ xs.map g) s
  | [], acc, _, _ => by simp [compO]
  | x :: xs, acc, hl, h => by
    have hl' : acc.length + 1 + xs.length ≤ SZ := by simpa [Nat.add_assoc, Nat.add_comm 1] using hl
    refine (h x (List.mem_cons_self ..) _).trans ?_
    show ck _ _ = _
    rw [decide_eq_true (show acc.length < SZ by omega), ck_true, compO_map g s xs (acc ++ [g x]) (by simpa using hl') fun y m => h y (List.mem_cons_of_mem _ m)]
    simp
/-- .. that sifts and maps -/
theorem compO_filterMap (g : α → Option β) {b : α → S → (Option β → S → Option Ω) → Option Ω} {k : List β → S → Option Ω} (s : S) : ∀ (xs : List α) (acc : List β), acc.length + xs.length ≤ SZ → (∀ x ∈ xs, ∀ kc, b x s kc = kc (g x) s) → compO xs s b acc k = k (acc ++ xs.filterMap g) s
  | [], acc, _, _ => by simp [compO]
  | x :: xs, acc, hl, h => by
    have hl' : acc.length + 1 + xs.length ≤ SZ := by simpa [Nat.add_assoc, Nat.add_comm 1] using hl
    refine (h x (List.mem_cons_self ..) _).trans ?_
    cases e : g x with
    | some y =>
      show ck _ _ = _
      rw [decide_eq_true (show acc.length < SZ by omega), ck_true, compO_filterMap g s xs (acc ++ [y]) (by simpa using hl') fun y m => h y (List.mem_cons_of_mem _ m)]
      simp [e]
    | none =>
      show compO xs s b acc k = _
      rw [compO_filterMap g s xs acc (by omega) fun y m => h y (List.mem_cons_of_mem _ m)]
      simp [e]
end
/-! ### the drawing of the laws -/
def takeM (t0 : TSt) (a_most : Int) : Option (Int × TSt) :=
  ck (modOk (List.length t0.2 : Int)) (let v_at : Int := (Int.fmod t0.1 (List.length t0.2 : Int))
  (atI t0.2 v_at).bind fun y =>
  let v_cell : Int := y
  if (decide ((1000000000000000000 : Int) ≤ v_cell)) = true then (
    ck (divOk a_most) ((ixN (List.length t0.2) v_at).bind fun n =>
    let z : (List Int) := List.set t0.2 n (Int.fdiv v_cell a_most)
    ck (modOk a_most) (some ((Int.fmod v_cell a_most), (t0.1, z)))))
  else (
    let v_n : Int := (t0.1 + (1 : Int))
    ck (mulOk v_cell (48271 : Int)) (ck (mulOk v_n (69621 : Int)) (ck (modOk (2147483647 : Int)) (let v_mixed : Int := (Int.fmod ((v_cell * (48271 : Int)) + (v_n * (69621 : Int))) (2147483647 : Int))
    ck (mulOk v_mixed (16807 : Int)) (ck (mulOk v_n (7919 : Int)) (ck (modOk (1000000007 : Int)) (let v_mixed2 : Int := (Int.fmod ((v_mixed * (16807 : Int)) + (v_n * (7919 : Int))) (1000000007 : Int))
    ck (divOk (7 : Int)) (ck (modOk a_most) (some ((Int.fmod (Int.fdiv v_mixed2 (7 : Int)) a_most), (v_n, t0.2))))))))))))
theorem take_ok {t : TSt} {m : Int} (ht : t.2 ≠ []) (h0 : 0 < m) (h1 : m < 1073741824) : ∃ v t', takeM t m = some (v, t') ∧ 0 ≤ v ∧ v < m ∧ t'.2 ≠ [] := by
  have hl : 0 < t.2.length := List.length_pos_iff.2 ht
  have hl' : (0 : Int) < (t.2.length : Int) := by omega
  have a0 := Int.fmod_nonneg_of_pos t.1 hl'
  have a1 := Int.fmod_lt_of_pos t.1 hl'
  obtain ⟨k, hk, e, ea⟩ := atI_pos (xs := t.2) a0 a1
  unfold takeM
  rw [modOk_pos hl', ck_true]
  show ∃ v t', (atI t.2 (Int.fmod t.1 t.2.length)).bind _ = _ ∧ _
  rw [ea]
  show ∃ v t', (if (decide ((1000000000000000000 : Int) ≤ t.2[k])) = true then _ else _) = _ ∧ _
  by_cases c : (1000000000000000000 : Int) ≤ t.2[k]
  · rw [if_pos (decide_eq_true c), divOk_pos h0 h1, ck_true, e, ixN_nat hk]
    show ∃ v t', ck (modOk m) _ = _ ∧ _
    rw [modOk_pos h0, ck_true]
    refine ⟨_, _, rfl, Int.fmod_nonneg_of_pos _ h0, Int.fmod_lt_of_pos _ h0, fun z => ?_⟩
    exact ht (by simpa using z)
  · rw [if_neg (by simpa using c)]
    show ∃ v t', ck (mulOk _ 48271) (ck (mulOk _ 69621) (ck (modOk 2147483647) (ck (mulOk _ 16807) (ck (mulOk _ 7919) (ck (modOk 1000000007) (ck (divOk 7) (ck (modOk m) (some _)))))))) = _ ∧ _
    rw [mulOk_r (by decide) (by decide), mulOk_r (by decide) (by decide), mulOk_r (by decide) (by decide), mulOk_r (by decide) (by decide), modOk_pos (by decide), modOk_pos (by decide), divOk_pos (by decide) (by decide), modOk_pos h0]
    simp only [ck_true]
    exact ⟨_, _, rfl, Int.fmod_nonneg_of_pos _ h0, Int.fmod_lt_of_pos _ h0, ht⟩
theorem take_wp {Ω : Type} {t : TSt} {m : Int} {k : Int × TSt → Option Ω} {ω : Ω} (ht : t.2 ≠ []) (h0 : 0 < m) (h1 : m < 1073741824) (hk : ∀ v t', 0 ≤ v → v < m → t'.2 ≠ [] → k (v, t') = some ω) : (takeM t m).bind k = some ω := by
  obtain ⟨v, t', e, a, b, c⟩ := take_ok ht h0 h1
  exact bind_wp e (hk v t' a b c)
def stateM (a_script : List Int) : Option TSt :=
  compO (cutL a_script none (some (63 : Int))) () (fun x (t : Unit) kc => (
    kc (some (if x < 0 then -x else x)) ())) [] fun (ys : List Int) (t : Unit) => (
    let v_cells : (List Int) := ys
    let k := fun j : (List Int) => (
      some ((0 : Int), j))
    if (decide ((List.length v_cells : Int) = (0 : Int))) = true then (
      let v_cells2 : (List Int) := [(0 : Int)]
      k v_cells2)
    else (
      k v_cells))
theorem cutL_len {α : Type} (xs : List α) (a b : Option Int) : (cutL xs a b).length ≤ xs.length := by
  unfold cutL
  simp; omega
theorem state_ok {ns : List Int} (h : ns.length ≤ 63) : ∃ t, stateM ns = some t ∧ t.2 ≠ [] := by
  unfold stateM
  rw [compO_map (fun x : Int => if x < 0 then -x else x) () _ [] (by have := cutL_len ns none (some 63); show _ ≤ 16777216; simp; omega) (fun _ _ _ => rfl)]
  show ∃ t, (if decide _ = true then _ else _) = some t ∧ _
  split
  · exact ⟨_, rfl, by simp⟩
  · rename_i c
    exact ⟨_, rfl, fun z => c (decide_eq_true (by rw [show List.length _ = 0 from congrArg List.length z]; rfl))⟩
end Z

set_option Elab.async false
set_option linter.all false
set_option maxRecDepth 100000
namespace Z
open PySem PySem.Spec PyProof.Rows L2

/-! ### a list with parts of their own kinds, that is changed part by part -/
def lsR {τ : Type} (E : Enc τ) : Stor τ where
  rel := fun K F H fp v t => ∃ p vs ds, v = .ref p ∧ H p = some (.lst vs) ∧ E.enc t = .tuple ds ∧ RepAll K F vs ds ∧ fp = [p]
  monoF := fun s h => by
    obtain ⟨p, vs, ds, rfl, hp, e, r, rfl⟩ := h
    exact ⟨p, vs, ds, rfl, hp, e, r.mono s, rfl⟩
  frame := fun f h => by
    obtain ⟨p, vs, ds, rfl, hp, e, r, rfl⟩ := h
    exact ⟨p, vs, ds, rfl, by rw [f p List.mem_cons_self]; exact hp, e, r, rfl⟩
/-- another value at the n-th part -/
structure PartS (E : Enc τ) (n : Int) (E1 : Enc α) (u : τ → α → τ) : Prop where
  is : ∀ x y, ∃ ds j, E.enc x = .tuple ds ∧ ixN ds.length n = some j ∧ E.enc (u x y) = .tuple (ds.set j (E1.enc y))
theorem parts2_0 {A : Enc α} {B : Enc β} : PartS (eT2 A B) 0 A (fun x y => (y, x.2)) := ⟨fun _ _ => ⟨_, _, rfl, rfl, rfl⟩⟩
theorem parts2_1 {A : Enc α} {B : Enc β} : PartS (eT2 A B) 1 B (fun x y => (x.1, y)) := ⟨fun _ _ => ⟨_, _, rfl, rfl, rfl⟩⟩
theorem parts3_0 {γ : Type} {A : Enc α} {B : Enc β} {D : Enc γ} : PartS (eT3 A B D) 0 A (fun x y => (y, x.2)) := ⟨fun _ _ => ⟨_, _, rfl, rfl, rfl⟩⟩
theorem parts3_1 {γ : Type} {A : Enc α} {B : Enc β} {D : Enc γ} : PartS (eT3 A B D) 1 B (fun x y => (x.1, y, x.2.2)) := ⟨fun _ _ => ⟨_, _, rfl, rfl, rfl⟩⟩
theorem parts3_2 {γ : Type} {A : Enc α} {B : Enc β} {D : Enc γ} : PartS (eT3 A B D) 2 D (fun x y => (x.1, x.2.1, y)) := ⟨fun _ _ => ⟨_, _, rfl, rfl, rfl⟩⟩
theorem parts4_0 {γ δ : Type} {A : Enc α} {B : Enc β} {D : Enc γ} {D' : Enc δ} : PartS (eT4 A B D D') 0 A (fun x y => (y, x.2)) := ⟨fun _ _ => ⟨_, _, rfl, rfl, rfl⟩⟩
theorem parts4_1 {γ δ : Type} {A : Enc α} {B : Enc β} {D : Enc γ} {D' : Enc δ} : PartS (eT4 A B D D') 1 B (fun x y => (x.1, y, x.2.2)) := ⟨fun _ _ => ⟨_, _, rfl, rfl, rfl⟩⟩
theorem parts4_2 {γ δ : Type} {A : Enc α} {B : Enc β} {D : Enc γ} {D' : Enc δ} : PartS (eT4 A B D D') 2 D (fun x y => (x.1, x.2.1, y, x.2.2.2)) := ⟨fun _ _ => ⟨_, _, rfl, rfl, rfl⟩⟩
theorem parts4_3 {γ δ : Type} {A : Enc α} {B : Enc β} {D : Enc γ} {D' : Enc δ} : PartS (eT4 A B D D') 3 D' (fun x y => (x.1, x.2.1, x.2.2.1, y)) := ⟨fun _ _ => ⟨_, _, rfl, rfl, rfl⟩⟩
section
variable {X : Cx} {R I Ω : Type} {SR : Stor R} {envR : I → Env} {kr : R → I → Option Ω} {bk ct : Lp Ω} {env : Env} {nm : Str} {pos : Pos} {a b e : Expr} {xs : List Expr} {rest : List Stmt} {P A : Type} {J : Type} {envJ : J → Env} {e' : P → Env} {τ α : Type} {E : Enc τ} {E1 : Enc α}
/-- [a, 0, ..] -/
theorem lx_row {sl : A → Env} {fs : (A → P → Option Ω) → Option Ω} (h : LA X env xs sl e' fs) (E : Enc τ) (g : A → τ) (ds : A → List PyData) (hd : ∀ a, ShL (sl a) (ds a)) (he : ∀ a, E.enc (g a) = .tuple (ds a)) (hz : xs.length ≤ 1000 := by decide) (hz2 : ∀ a, (sl a).length = xs.length := by intro _; rfl) :
    LX X env (.List xs pos) (lsR E) e' (fun k => fs fun a p => k (g a) p) :=
  fun C F H σs es σ k ω Q hK hl hr hk q => tE.of X (pe_lst (paC X)) (h C F H σs es σ _ ω _ hK hl hr hk fun a p vs F' H' hk' hlv h' => by
    refine ⟨?_, fun t nt => ?_⟩
    · have := hz2 a; simp at hlv; exact Nat.le_of_lt (small1000 (by omega))
    · have r := (hd a).rep hlv h'
      exact q (g a) p (.ref t) F' _ hk' ((h'.popN hlv).newOw nt ⟨t, vs, ds a, rfl, upd_same, he a, r, rfl⟩))
/-- row[n] -/
theorem lx_rowAt {w : Option V} {t : τ} {n : Int} {g : τ → α} {p1 cp sp : Pos} {k : Nat} (i : Nat) (hp : Part E n E1 g) (he : env[i]? = some (.st w τ (lsR E) t)) (hi : X.N[i]? = some nm := by rfl) (hv_nm : Vis X.env.scope nm := by first | exact Or.inl rfl | exact Or.inr (Or.inl rfl) | exact Or.inr (Or.inr rfl)) (hd : (nm == ("__debug__" : Str)) = false := by decide) (hcd : (nm == ("__classdict__" : Str)) = false := by decide) :
    LX X env (.Subscript (.Name nm p1) (.Constant (.int n) k cp) sp) (it E1) (fun _ : Unit => env) (fun (k : α → Unit → Option Ω) => k (g t) ()) :=
  fun C F H σs es σ k ω Q hK hl h hk q => tE.of X (pe_ix ix_list (pe_var hi hv_nm hd hcd) pe_int fun _ _ => rfl) (by
    obtain ⟨v, fp, e1, p, vs, ds, rfl, h1, h2, h3, _⟩ := h.lookF hl he
    obtain ⟨ds', q1, q2⟩ := hp.is t
    rw [h2] at q1
    cases q1
    obtain ⟨u, hu, ru⟩ := h3.atD q2
    exact ⟨_, e1, p, vs, n, u, rfl, rfl, SqL.of h1, hu, q (g t) () u F H hk (h.pushSh ru)⟩)
/-- row[n] = e -/
theorem lb_setrow {f : (α → P → Option Ω) → Option Ω} {fr : α → P → (J → Option Ω) → Option Ω} {w : Option V} {t : P → τ} {n : Int} {u : τ → α → τ} {p1 cp sp : Pos} {k : Nat} (i : Nat) (hp : PartS E n E1 u) (he : LX X env e (it E1) e' f) (h1 : ∀ p, (e' p)[i]? = some (.st w τ (lsR E) (t p)))
    (hr : ∀ y p, LB X SR envR kr bk ct ((e' p).set i (.st w τ (lsR E) (u (t p) y))) rest envJ (fr y p)) (hi : X.N[i]? = some nm := by rfl) (hv_nm : Vis X.env.scope nm := by first | exact Or.inl rfl | exact Or.inr (Or.inl rfl) | exact Or.inr (Or.inr rfl)) (hd : (nm == ("__debug__" : Str)) = false := by decide) (hcd : (nm == ("__classdict__" : Str)) = false := by decide)
    (ha : ∀ v, assign (.Subscript (.Name nm p1) (.Constant (.int n) k cp) sp) X.env v = (do
      let ov ← holding [v] (eval (.Name nm p1) X.env)
      let iv ← holding [v, ov] (eval (.Constant (.int n) k cp) X.env)
      standAt sp
      holding [v, ov, iv] (setItem ov iv v)
      release [v, ov, iv] []) := by intro _; rfl)
    (hs : swapsWithSole [.Subscript (.Name nm p1) (.Constant (.int n) k cp) sp] e pos.line X.env = pure false := by rfl) (hw : swappedStores [.Subscript (.Name nm p1) (.Constant (.int n) k cp) sp] e X.env = pure none := by rfl) (ha1 : (assignEach [.Subscript (.Name nm p1) (.Constant (.int n) k cp) sp] X.env).map (·.2) = [assign (.Subscript (.Name nm p1) (.Constant (.int n) k cp) sp) X.env] := by rfl) :
    LB X SR envR kr bk ct env (.Assign [.Subscript (.Name nm p1) (.Constant (.int n) k cp) sp] e pos :: rest) envJ (fun kn => f fun y p => fr y p kn) :=
  fun C F H σs es σ kn ω D hK hl h hk qn qb qc qr => tSs.of X (pss_cons (ps_asg (peC X) (pg_sub (pe_var hi hv_nm hd hcd) pe_int set_list ha) hs hw ha1) (pssC X)) (he C F H σs es σ _ ω _ hK hl h hk fun y p v F' H' hk' h' => by
    have hvy : Rep C.K F' v (E1.enc y) := by
      obtain ⟨v', fp, e1, r⟩ := h'.look (i := 0) rfl
      simp at e1; subst e1
      exact r.2
    obtain ⟨l, fp, e1, r1, nd, ow, fin⟩ := (ER.pop h').mut (i := es.length + i) (by rw [at_app _ rfl]; exact h1 p)
    rw [at_app _ hl] at e1
    obtain ⟨p0, vs, ds, rfl, h2, h3, h4, rfl⟩ := r1
    obtain ⟨ds', j, q1, q2, q3⟩ := hp.is (t p) y
    rw [h3] at q1
    cases q1
    have hj : ixN vs.length n = some j := by rw [h4.length]; exact q2
    refine ⟨_, e1, p0, vs, n, j, rfl, rfl, h2, hj, ?_⟩
    have fin' := fin τ (lsR E) (u (t p) y) (upd H' p0 (.lst (vs.set j v))) [p0] (fun a na _ => upd_ne fun z => na (by rw [z]; simp)) (fun a m => ?_) ⟨p0, _, _, rfl, upd_same, q3, h4.set hvy, rfl⟩ (by simp) (fun a m => ?_)
    · rw [List.set_append_right _ _ (Nat.le_add_right _ _), Nat.add_sub_cancel_left] at fin'
      exact hr y p C F' _ σs es σ kn ω D hK hl fin' hk' qn qb qc qr
    · by_cases z : a = p0
      · subst z; rw [upd_same]; exact fun z => by cases z
      · rw [upd_ne z]; exact m
    · simp at m; subst m
      exact ⟨by rw [upd_same]; exact (fun z => by cases z), .inl (by simp)⟩)
variable {np tp : Pos} {f : (τ → P → Option Ω) → Option Ω}
theorem sqT_ty {K : Fg} {H : Hp} {p : Addr} {vs : List V} (h : SqT K H p vs) : TyX K H (.ref p) (.type "tuple") := by
  rcases h with (h | ⟨o, h⟩) | ⟨o, its, n, h1, h2, _⟩
  · exact .base (.tup h)
  · exact .fTuple h
  · exact .kTuple h1 h2
/-- isinstance(a, tuple) of a tuple -/
theorem lx_isT (hE : ∀ x, ∃ ds, E.enc x = .tuple ds) (hm1 : X.mg "isinstance" = none) (hm2 : X.mg "tuple" = none) (ha : LX X env a (it E) e' f) (hg1 : Gl X "isinstance" := by rfl) (hg2 : Gl X "tuple" := by rfl)
    (hs : starEach [a, .Name "tuple" tp] X.env = (false, eval a X.env) :: starEach [.Name "tuple" tp] X.env := by rfl) (hs2 : starEach [.Name "tuple" tp] X.env = (false, eval (.Name "tuple" tp) X.env) :: starEach [] X.env := by rfl) (hpl : (backTo pos (starEach [.Name "tuple" tp] X.env)).any (·.1) = false := by rfl) :
    LX X env (.Call (.Name "isinstance" np) [a, .Name "tuple" tp] [] pos) (it eB) e' (fun k => f fun _ p => k true p) :=
  fun C F H σs es σ k ω Q hK hl h hk q => tE.of X (pe_callB call_isi hg1 hm1 (by rfl) (pa_cons (peC X) (pa_cons (pe_bltn (v := .ty "tuple") (u := .type "tuple") hg2 hm2 (by rfl) rfl) pa_nil hs2) hs) (by decide) (by decide) hs hpl) (ha C F H σs es σ _ ω _ hK hl h hk fun x p v F' H' hk' h' => by
    obtain ⟨v', fp, e1, _, r⟩ := h'.look (i := 0) rfl
    simp at e1; subst e1
    obtain ⟨ds, e⟩ := hE x
    rw [e] at r
    obtain ⟨t, vs, rfl, h1, h2⟩ := r.tup_inv
    exact ⟨_, _, _, _, true, rfl, .ty "tuple", sqT_ty (by rw [← hK]; exact same_sqT h'.sF h1), by unfold PySem.W.kitOne; rw [if_pos (by decide)], q true p (.bl true) F' H' hk' (h'.pop.pushSh (.bl true))⟩)
/-- len of a tuple of parts -/
theorem lx_lenT {n : Nat} (hE : ∀ x, ∃ ds, E.enc x = .tuple ds ∧ ds.length = n) (hm : X.mg "len" = none) (ha : LX X env a (it E) e' f) (hg : Gl X "len" := by rfl) (he : starEach (a :: []) X.env = (false, eval a X.env) :: starEach [] X.env := by rfl) (hpl : (backTo pos (starEach [] X.env)).any (·.1) = false := by rfl) :
    LX X env (.Call (.Name "len" np) [a] [] pos) (it eI) e' (fun k => f fun _ p => k (n : Int) p) :=
  lx_b1t (G := fun _ => True) (E := eI) (g := fun _ : τ => (n : Int)) call_len_seq hm PySem.boot_len (lo_of ha) (fun _ => trivial) (fun K F H fp v x Q hK s r q => by
    obtain ⟨_, r⟩ := r
    obtain ⟨ds, e, hn⟩ := hE x
    rw [e] at r
    obtain ⟨t, vs, rfl, h1, h2⟩ := r.tup_inv
    have := h2.length
    exact ⟨t, vs, rfl, .inr (by rw [← hK]; exact same_sqT s h1), by rw [this, hn]; exact q _ (.int _)⟩) hg (by decide) (by decide) he hpl
end
end Z

set_option Elab.async false
set_option linter.all false
set_option maxRecDepth 100000
namespace Z
open PySem PySem.Spec PyProof.Rows L2

/-! ### pairs in their order; ranges; walks that gather -/
abbrev lpp : Int × Int → Int × Int → Bool := lt2 ltI ltI
theorem lpp_iff {x y : Int × Int} : lpp x y = true ↔ (x.1 < y.1 ∨ (x.1 = y.1 ∧ x.2 < y.2)) := by
  unfold lpp lt2 ltI
  by_cases c : x.1 = y.1
  · rw [if_pos c, decide_eq_true_eq]; omega
  · rw [if_neg c, decide_eq_true_eq]; omega
theorem lpp_no {x y : Int × Int} : lpp x y = false ↔ ¬(x.1 < y.1 ∨ (x.1 = y.1 ∧ x.2 < y.2)) := by rw [← lpp_iff]; simp
theorem minB_pp {l : List (Int × Int)} {m : Int × Int} (hm : m ∈ l) (h : ∀ y ∈ l, lpp y m = false) : minB lpp l = some m := by
  have key : ∀ (l : List (Int × Int)) (a : Int × Int), (l.foldl (fun a y => if lpp y a = true then y else a) a ∈ a :: l) ∧ ∀ y ∈ a :: l, lpp y (l.foldl (fun a y => if lpp y a = true then y else a) a) = false := by
    intro l
    induction l with
    | nil => intro a; refine ⟨by simp, fun y m => ?_⟩; simp at m; subst m; rw [List.foldl_nil, lpp_no]; omega
    | cons b l ih =>
      intro a
      rw [List.foldl_cons]
      by_cases c : lpp b a = true
      · rw [if_pos c]
        obtain ⟨i1, i2⟩ := ih b
        refine ⟨by rcases List.mem_cons.1 i1 with h | h <;> simp [h], fun y m => ?_⟩
        rcases List.mem_cons.1 m with rfl | m
        · have i3 := i2 b (by simp)
          rw [lpp_no] at i3 ⊢
          rw [lpp_iff] at c
          omega
        · exact i2 y m
      · rw [if_neg c]
        obtain ⟨i1, i2⟩ := ih a
        refine ⟨by rcases List.mem_cons.1 i1 with h | h <;> simp [h], fun y m => ?_⟩
        rcases List.mem_cons.1 m with rfl | m
        · exact i2 _ (by simp)
        · rcases List.mem_cons.1 m with rfl | m
          · have i3 := i2 a (by simp)
            have c' : lpp y a = false := by simpa using c
            rw [lpp_no] at i3 c' ⊢
            omega
          · exact i2 y (by simp [m])
  cases l with
  | nil => cases hm
  | cons a l =>
    obtain ⟨i1, i2⟩ := key l a
    show some _ = some m
    have h1 := h _ i1
    have h2 := i2 m hm
    rw [lpp_no] at h1 h2
    exact congrArg some (Prod.ext (by omega) (by omega))
theorem mem_range2 {lo hi x : Int} : x ∈ rangeL lo hi ↔ lo ≤ x ∧ x < hi := by
  unfold rangeL
  simp only [List.mem_map, List.mem_range]
  exact ⟨fun ⟨i, h, e⟩ => by omega, fun h => ⟨(x - lo).toNat, by omega, by omega⟩⟩
theorem rangeL_len {lo hi : Int} : (rangeL lo hi).length = (hi - lo).toNat := by simp [rangeL]
theorem rangeL_cons {lo hi : Int} (h : lo < hi) : ∃ r, rangeL lo hi = lo :: r := by
  unfold rangeL
  obtain ⟨n, hn⟩ : ∃ n, (hi - lo).toNat = n + 1 := ⟨(hi - lo).toNat - 1, by omega⟩
  rw [hn, List.range_succ_eq_map, List.map_cons]
  exact ⟨_, by simp; rfl⟩
theorem rangeL_snoc {lo hi : Int} (h : lo < hi) : ∃ r, rangeL lo hi = r ++ [hi - 1] := by
  unfold rangeL
  obtain ⟨n, hn⟩ : ∃ n, (hi - lo).toNat = n + 1 := ⟨(hi - lo).toNat - 1, by omega⟩
  rw [hn, List.range_succ, List.map_append]
  refine ⟨_, congrArg _ ?_⟩
  simp; omega
theorem rgOk_small {lo hi : Int} (h1 : -1000000 ≤ lo) (h2 : lo ≤ 1000000) (h3 : -1000000 ≤ hi) (h4 : hi ≤ 1000000) : rgOk lo hi = true := decide_eq_true ⟨by omega, by omega, by omega, by omega⟩
theorem atI_last {α : Type} {l : List α} {a : α} : atI (l ++ [a]) (-(1 : Int)) = some a := by
  unfold atI ixN
  rw [if_neg (by decide), if_pos (by simp; omega)]
  show (l ++ [a])[_]? = _
  have : (-(1 : Int) + ((l ++ [a]).length : Int)).toNat = l.length := by simp; omega
  rw [this]; simp
theorem forO_cat {α β Ω : Type} (f : α → List β) (m N : Nat) {b : α → List β → (List β → Option Ω) → Option Ω} {k : List β → Option Ω} : ∀ (xs : List α) (s : List β), s.length + xs.length * m ≤ N →
    (∀ x ∈ xs, (f x).length ≤ m ∧ ∀ s kc, s.length + m ≤ N → b x s kc = kc (s ++ f x)) → forO xs s b k = k (s ++ xs.flatMap f)
  | [], s, _, _ => by simp [forO]
  | x :: xs, s, hl, h => by
    obtain ⟨h1, h2⟩ := h x (List.mem_cons_self ..)
    rw [List.length_cons, Nat.add_mul, Nat.one_mul] at hl
    refine (h2 s _ (by omega)).trans ?_
    rw [forO_cat f m N xs (s ++ f x) (by rw [List.length_append]; omega) fun y k => h y (List.mem_cons_of_mem _ k), List.flatMap_cons, List.append_assoc]
/-- the cells of a rectangle, column by column -/
def grid (x0 x1 y0 y1 : Int) : List (Int × Int) := (rangeL x0 x1).flatMap fun c => (rangeL y0 y1).map fun r => (c, r)
theorem grid_first {x0 x1 y0 y1 : Int} (hx : x0 < x1) (hy : y0 < y1) : atI (grid x0 x1 y0 y1) 0 = some (x0, y0) := by
  obtain ⟨r, e⟩ := rangeL_cons hx
  obtain ⟨q, e2⟩ := rangeL_cons hy
  unfold grid
  rw [e, e2]
  simp only [List.flatMap_cons, List.map_cons, List.cons_append]
  exact Z.atI_nat (xs := (x0, y0) :: _) (i := 0) (by simp)
theorem grid_last {x0 x1 y0 y1 : Int} (hx : x0 < x1) (hy : y0 < y1) : atI (grid x0 x1 y0 y1) (-(1 : Int)) = some (x1 - 1, y1 - 1) := by
  obtain ⟨r, e⟩ := rangeL_snoc hx
  obtain ⟨q, e2⟩ := rangeL_snoc hy
  unfold grid
  rw [e, e2]
  simp only [List.flatMap_append, List.map_append, List.flatMap_cons, List.flatMap_nil, List.map_cons, List.map_nil, List.append_nil, ← List.append_assoc]
  exact atI_last
end Z

set_option Elab.async false
set_option linter.all false
set_option maxRecDepth 100000
namespace Z
open PySem PySem.Spec PyProof.Rows L2

/-! ### a def that is called where no repr is under way -/
/-- the promise of a def, where no repr is under way -/
structure FnG (P : Program) (w : World) (K : Fg) (mg : Str → Option Value) (base : Heap) (k : Nat) (f : Addr) (fd : FuncData) (ps : List Str) (sp : Sp) : Prop where
  go : ∀ (A : Around) (ou : List PySem.Env) (s : Shared) (H : Hp) (ar : Args) (us : List Value) (vs : List V) (Q : VK) (E : XK), A.guards = some [] → Room k A → Env0 P w K mg base A ou s H → BindsTo s fd ar (ps.zip us) → Vals vs us → sp vs H Q E → codeAny (model P w) A (.call (.ref f) ar) (CR CX0 ou P w H s Q E) s
section
variable {P : Program} {w : World} {K : Fg} {mg : Str → Option Value} {base : Heap}
theorem FnG.weak {k : Nat} {f : Addr} {fd : FuncData} {ps : List Str} {sp sp' : Sp} (G : FnG P w K mg base k f fd ps sp) (h : ∀ vs H Q E, sp' vs H Q E → sp vs H Q E) : FnG P w K mg base k f fd ps sp' :=
  ⟨fun A ou s H ar us vs Q E g hr e hb hv hs => G.go A ou s H ar us vs Q E g hr e hb hv (h _ _ _ _ hs)⟩
theorem fnG0 {x qual : Str} {st : Stmt} {f : Addr} {fd : FuncData} {N ps : List Str} {k : Nat} {sp : Sp} (F : Fun K x qual st f fd) (S : FnScope N ps (defScope st)) (len : ∀ vs H Q E, sp vs H Q E → vs.length = ps.length)
    (hb : ∀ (cdv : Value) (A : Around) (ou : List PySem.Env) (s : Shared) (H : Hp) (vs : List V) (Q : VK) (E : XK), A.guards = some [] → Room k (A.deeper (envOfC qual (defScope st) s.heap.objs.size f cdv)) → sp vs H Q E →
      ∃ t, PSs (cxOf CX0 P w K mg base N qual (defScope st) f cdv A ou s H E).nox (defBody st) t ∧ t { nx := fun _ H' => Q .non H', rt := Q } (L2.start N vs) H) : FnG P w K mg base (k + 1) f fd ps sp := by
  obtain ⟨oc, od, kV, doc, pm, an, cdv, ct, osl, rfl, lk, hcd⟩ := F.ex
  constructor
  intro A ou s H ar us vs Q E hg hr e0 hbd hv hsp
  have hKs : K.In s.heap := e0.mod.kin.keeps fun b o e => (e0.bs b o e).1
  have hnl : s.heap.NoLimit := e0.mod.nolimit.keeps fun b o e => (e0.bs b o e).1
  have kinds : ∀ y ∈ ps.zip us, (defScope st).names.lookup y.1 = some .local ∨ ((defScope st).names.lookup y.1 = some .cell ∧ ((cellsFrom (s.heap.objs.size + 1) (defScope st).names []).lookup y.1).isSome = true) := by
    rintro ⟨nme, va⟩ hy
    cases S.par nme (List.of_mem_zip hy).1 with
    | inl z => exact Or.inl z
    | inr z => exact Or.inr ⟨z, PySem.W.cellsFrom_some _ _ _ (Or.inl z)⟩
  refine codeAny_call_function hr.depth (hKs _ _ lk) rfl S.co S.gen rfl (PySem.W.codeRec_of hKs hcd) (hbd _ _ _ _ ?go)
  refine wpAny_newFunctionEnv_cells S.kind kinds fun en1 hen s1 x1 => ?_
  subst hen
  refine ⟨hnl.keeps x1.toInCall.keep, codeAny_func ?_⟩
  obtain ⟨t, ht, hq⟩ := hb cdv A ou s H vs Q E hg (hr.deeper _) hsp
  have inv : Inv (cxOf CX0 P w K mg base N qual (defScope st) f cdv A ou s H E) [] (L2.start N vs) H s1 := inv_start S hr.hd e0 (len _ _ _ _ hsp) hv x1
  have ht2 := ht.nox
  refine wpAny_mono (ht2.run [] s1 (L2.start N vs) H _ inv hq) (fun fl s2 hs2 => ?_) fun e s2 hs2 => hs2
  cases fl with
  | ret u =>
    obtain ⟨v, σ2, H2, J, rv, q⟩ := hs2
    exact ⟨v, H2, J.os, J.bare, J.base, J.hok, rv, q⟩
  | next =>
    obtain ⟨σ2, H2, J, q⟩ := hs2
    exact ⟨V.non, H2, J.os, J.bare, J.base, J.hok, rfl, q⟩
  | brk => exact False.elim hs2.choose_spec.choose_spec.2
  | cont => exact False.elim hs2.choose_spec.choose_spec.2
/-- .. by its body's derivation -/
theorem fnPG {x qual : Str} {st : Stmt} {f : Addr} {fd : FuncData} {N ps : List Str} {k : Nat} {A R : Type} {sl : A → Env} {SR : Stor R} {m : A → Option R} (F : Fun K x qual st f fd) (S : FnScope N ps (defScope st)) (n : Nat) (hn : N.length - ps.length = n) (hl : ∀ a, (sl a).length = ps.length)
    (hb : ∀ (cdv : Value) (A' : Around) (ou : List PySem.Env) (s : Shared) (H : Hp) (E : XK), (A'.deeper (envOfC qual (defScope st) s.heap.objs.size f cdv)).guards = some [] → Room k (A'.deeper (envOfC qual (defScope st) s.heap.objs.size f cdv)) → ∀ a : A,
      LB (cxOf CX0 P w K mg base N qual (defScope st) f cdv A' ou s H E).nox SR (fun _ : Unit => List.replicate (ps.length + n) .un) (fun (r : R) (_ : Unit) => some r) (noLp R) (noLp R) (sl a ++ List.replicate n .un) (defBody st) (fun z : Empty => z.elim) (fun _ => m a)) :
    FnG P w K mg base (k + 1) f fd ps (spP K sl SR m) := by
  have hlen : ∀ vs H Q E, spP K sl SR m vs H Q E → vs.length = ps.length := fun vs H Q E h => by
    obtain ⟨B, F0, a, r, _, h2, _⟩ := h
    rw [List.length_map] at h2; rw [h2, hl a]
  refine fnG0 F S hlen fun cdv A' ou s H vs Q E hg hr h => ?_
  have hlv := hlen vs H Q E h
  obtain ⟨B, F0, a, r, hm, _, her, q⟩ := h
  refine ⟨_, pssC _, ?_⟩
  have hst : L2.start N vs = vs.map some ++ List.replicate n none := by unfold L2.start; rw [hlv, hn]
  rw [hst]
  refine hb cdv A' ou s H E hg hr a ⟨K, B, F0, H, []⟩ F0 H [] [] _ (fun z => z.elim) r { nx := fun _ H' => Q .non H', rt := Q } rfl rfl (her.padR n) hm (fun z => z.elim) (fun z => z.elim) (fun z => z.elim) ?_
  intro a' i v F' H' σ' e h'
  cases e
  exact q F' H' v h'.head
/-- the call of the law's def from the claim's caller: nothing but the script is held -/
theorem lawG1 {mb : Str → Option Value} {k : Nat} {fa a : Addr} {fd : FuncData} {x : Str} {sp : Sp} {s1 : Shared} {vs : List Value} {H : Hp} (KX : K.In s1.heap) (hns : s1.heap.Ns mainGlobals mg) (hb : s1.heap.Ns builtinsNs mb) (hbb : ∀ y : Str, y ≠ "__name__" → mb y = bootBuiltins y) (hlim : s1.heap.NoLimit) (hg : s1.gens = #[])
    (ha : s1.heap.get? a = some { cls := .type "list", data := .seq vs.toArray }) (hr : Room k callerA) (F : ∀ bs : Heap, K.In bs → bs.Ns mainGlobals mg → FnG P w K mg bs k fa fd [x] sp) (hbind : ∀ (s : Shared) (u : Value), BindsTo s fd ⟨[u], []⟩ [(x, u)])
    (hO : Only H) (hsp : sp [.ref a] H (fun v _ => v = .bl true) fun _ _ _ => False) (hok : HOk P w H s1.heap) (hA : ∀ b, H b ≠ none → b = a) (hK : H a ≠ none → K.lookup a = none) :
    codeAny (model P w) callerA (.call (.ref fa) ⟨[.ref a], []⟩) (fun r s' => r = .ok (.ret (.bool true)) ∧ OldK s1.heap s'.heap ∧ s'.os = s1.os ∧ AllBare s'.gens) s1 := by
  have up : ∀ {c : Addr} {o : Obj}, s1.heap.get? c = some o → H c = none → (hidT s1.heap H).get? c = some o := fun e n => hidT_get e n
  have free : ∀ {c : Addr} {o : Obj} {es : Array DictEntry} {ep : Nat}, s1.heap.get? c = some o → o.data = .dict es ep → H c = none := by
    intro c o es ep e d
    rcases q : H c with _ | u
    · rfl
    · have hc : c = a := hA c (by rw [q]; exact fun z => by cases z)
      rw [hc, ha] at e
      cases e
      cases (show Data.seq vs.toArray _ = Data.dict es ep from d)
  have nsUp : ∀ {c : Addr} {m : Str → Option Value}, s1.heap.Ns c m → (hidT s1.heap H).Ns c m := fun ⟨o, es, ep, e, d, r⟩ => ⟨o, es, ep, up e (free e d), d, r⟩
  have inUp : K.In (hidT s1.heap H) := by
    intro c o e
    refine up (KX c o e) ?_
    rcases q : H c with _ | u
    · rfl
    · have hc : c = a := hA c (by rw [q]; exact fun z => by cases z)
      subst hc
      have := hK (by rw [q]; exact fun z => by cases z)
      rw [this] at e; cases e
  have md : Mod K mg (hidT s1.heap H) := ⟨inUp, nsUp hns, ⟨mb, nsUp hb, hbb⟩, by obtain ⟨mc, h1, h2⟩ := hlim; exact ⟨mc, nsUp h1, h2⟩⟩
  have ev : Env0 P w K mg (hidT s1.heap H) callerA [] s1 H := by
    refine ⟨rfl, md, fun c o e => of_hidT e, Nat.le_of_eq (hidT_size _ _), trivial, fun c hc => ?_, hok, .of_eq hg⟩
    cases (show c ∈ ([] : List Addr) from hc)
  have run := (F _ inUp (nsUp hns)).go callerA [] s1 H ⟨[.ref a], []⟩ [.ref a] [.ref a] _ _ rfl hr ev (hbind s1 (.ref a)) (.cons rfl .nil) hsp
  refine codeAny_mono run fun r s' h => ?_
  match r, h with
  | .error e, h => exact False.elim h
  | .ok .next, h => exact False.elim h
  | .ok .brk, h => exact False.elim h
  | .ok .cont, h => exact False.elim h
  | .ok (.ret u), h =>
    obtain ⟨v, H2, os, bare, un, hok2, rv, q⟩ := h
    have hv : v = .bl true := q
    rw [hv] at rv
    have hu : u = Value.bool true := rv
    refine ⟨by rw [hu], OldK.of_keep fun c o e => ?_, os, bare⟩
    rcases q2 : H c with _ | g
    · exact un.keep c o e q2 (fun z => by cases (show c ∈ ([] : List Addr) from z)) (by simp)
    · rcases hO c with z | ⟨ob, xs, z⟩
      · rw [q2] at z; cases z
      · have e1 := (hok c _ z).1
        have e2 := (hok2 c _ (un.frzs c ob _ z)).1
        rw [e] at e1; cases e1
        exact e2
theorem lawG {mb : Str → Option Value} {k : Nat} {fa a : Addr} {fd : FuncData} {x : Str} {sp : Sp} {s1 : Shared} {vs : List Value} {ns : List Int} (KX : K.In s1.heap) (hns : s1.heap.Ns mainGlobals mg) (hb : s1.heap.Ns builtinsNs mb) (hbb : ∀ y : Str, y ≠ "__name__" → mb y = bootBuiltins y) (hlim : s1.heap.NoLimit) (hg : s1.gens = #[])
    (ha : s1.heap.get? a = some { cls := .type "list", data := .seq vs.toArray }) (hi : IntsAre vs ns) (hl : ns.length ≤ sizeLine) (hr : Room k callerA) (F : ∀ bs : Heap, K.In bs → bs.Ns mainGlobals mg → FnG P w K mg bs k fa fd [x] sp) (hbind : ∀ (s : Shared) (u : Value), BindsTo s fd ⟨[u], []⟩ [(x, u)])
    (hsp : ∀ H : Hp, Only H → SqL K H a (ns.map V.int) → sp [.ref a] H (fun v _ => v = .bl true) fun _ _ _ => False) :
    codeAny (model P w) callerA (.call (.ref fa) ⟨[.ref a], []⟩) (fun r s' => r = .ok (.ret (.bool true)) ∧ OldK s1.heap s'.heap ∧ s'.os = s1.os ∧ AllBare s'.gens) s1 := by
  have rv := vals_ints hi
  have hlen := hi.length
  rcases hk : K.lookup a with _ | o
  · have hO : Only (fun c => if c = a then some (.frz { cls := .type "list", data := .seq vs.toArray } (.lst (ns.map V.int))) else none) := fun c => by
      by_cases z : c = a
      · exact .inr ⟨_, _, if_pos z⟩
      · exact .inl (if_neg z)
    refine lawG1 KX hns hb hbb hlim hg ha hr F hbind hO (hsp _ hO (.inl (.inr ⟨_, if_pos rfl⟩))) (fun c u z => ?_) (fun c z => ?_) (fun _ => hk)
    · by_cases q : c = a
      · rw [if_pos q] at z
        cases z
        rw [q]
        exact ⟨ha, by rw [List.length_map]; exact hl, vs, _, rv, ha⟩
      · rw [if_neg q] at z; cases z
    · by_cases q : c = a
      · exact q
      · exact absurd (if_neg q) z
  · have e := KX a o hk
    rw [ha] at e
    cases e
    refine lawG1 (H := fun _ => none) KX hns hb hbb hlim hg ha hr F hbind (fun _ => .inl rfl) (hsp _ (fun _ => .inl rfl) (.inr ⟨_, vs.toArray, _, hk, rfl, rfl, rfl, by rw [List.size_toArray, hlen]; exact hl, by simpa using rv⟩)) (fun c u z => by cases (show (none : Option HO) = some u from z)) (fun c z => absurd rfl z) (fun z => absurd rfl z)
end
theorem walkG {l : PySem.W.OpenLaw} {n k : Nat} {q : Program} {loose : List Str} {XP : (Str → Option Value) → Heap → Prop} {YP : World → Heap → Prop} {d : DefRec} {K : Params → Fg} {sp : World → Sp} {x : Str} (hn : l.most = some n) (hn2 : n ≤ sizeLine) (hdf : d.params.defaults = []) (hr : Room k callerA) (hY : ∀ (w : World) (h : Heap), YP w h → (K w.params).In h)
    (F : ∀ (w : World) (mg : Str → Option Value) (fa : Addr) (h : Heap), (K w.params).In h → h.Ns mainGlobals mg → mg d.name = some (.ref fa) → ∃ fd : FuncData, (∀ (s : Shared) (u : Value), BindsTo s fd ⟨[u], []⟩ [(x, u)]) ∧ ∀ bs : Heap, (K w.params).In bs → bs.Ns mainGlobals mg → FnG l.prog w (K w.params) mg bs k fa fd [x] (sp w))
    (hsp : ∀ (w : World) (H : Hp) (a : Addr) (ns : List Int), ns.length ≤ n → Only H → SqL (K w.params) H a (ns.map V.int) → sp w [.ref a] H (fun v _ => v = .bl true) fun _ _ _ => False) :
    PySem.W.WalkO q loose XP YP l.row.toRowW d [] (fun f vs => PySem.call f vs) := by
  refine Att.attach_call hn hdf fun w s0 s1 mg mb fa o pm cd doc a vs ns G Y ho hd hcd hmg hobj hints hlen hg => ?_
  obtain ⟨fd, hbd, hF⟩ := F w mg fa _ (hY w _ Y) G.T.g hmg
  exact lawG (hY w _ Y) G.T.g G.T.b G.T.builtins G.T.nolimit hg hobj hints (Nat.le_trans hlen hn2) hr hF hbd fun H hO hS => hsp w H a ns hlen hO hS
end Z

set_option Elab.async false
set_option linter.all false
set_option maxRecDepth 100000
namespace Z
open PySem PySem.Spec PyProof.Rows L2

/-! ### repr of data -/
def showOk (d : PyData) : Bool := d.canLay0 && d.showable && decide (d.depth ≤ 60) && decide (d.shown.length ≤ sizeLine)
/-- the text of a datum, where it can be told -/
def reprO (d : PyData) : Option Str := if showOk d = true then some d.shown else none
def rRepr (K : Fg) : List V → Hp → VK → Prop := fun vs H Q => ∃ (v : V) (d : PyData), vs = [v] ∧ Dp K H v d ∧ showOk d = true ∧ Q (.str d.shown) H
theorem cr_repr {X : Cx} (hg : X.A.guards = some []) (hu : X.A.units + 64 < cLine) : CallR X (.builtin "repr") (rRepr X.K) := by
  intro pins s σ H vs us Q I r h
  obtain ⟨v, d, rfl, hd, hs, q⟩ := h
  simp only [showOk, Bool.and_eq_true, decide_eq_true_eq] at hs
  obtain ⟨⟨⟨s1, s2⟩, s3⟩, s4⟩ := hs
  obtain ⟨u, rfl, rv⟩ := vals1 r
  obtain ⟨as, hr⟩ := Dp.reads I d v u hd rv
  have nodict : d.hasDict = true → sysModules ∉ as := PyData.noDict_hsm (PyData.hasDict_of_canLay d s1)
  cases hd with
  | non =>
    have e : u = .none := rv
    subst e
    exact PySem.P.repr_of_none ⟨.str _, H, I.tok _, ⟨_, by rw [PyData.shown]⟩, q⟩
  | bl b =>
    have e : u = .bool b := rv
    subst e
    exact PySem.P.repr_of_bool ⟨.str _, H, I.tok _, ⟨_, by rw [PyData.shown]⟩, q⟩
  | int i =>
    obtain ⟨t, rfl⟩ := rv
    exact PySem.P.repr_of_int (by simpa [PyData.showable] using s2) ⟨.str _, H, I.tok _, ⟨_, by rw [PyData.shown]⟩, q⟩
  | str x =>
    obtain ⟨t, rfl⟩ := rv
    exact PySem.P.repr_of_str ⟨.str _, H, I.tok _, ⟨_, by rw [PyData.shown]⟩, q⟩ (by rw [PyData.shown] at s4; exact s4)
  | lst h1 h2 =>
    have e := (show u = Value.ref _ from rv)
    subst e
    exact PySem.repr_of_reads' hr s2 nodict hg (by omega) (fun b o e => e) (fun h' u tk hk => ⟨.str _, H, I.kept hk, ⟨u, rfl⟩, q⟩) s4
  | tup h1 h2 =>
    have e := (show u = Value.ref _ from rv)
    subst e
    exact PySem.repr_of_reads' hr s2 nodict hg (by omega) (fun b o e => e) (fun h' u tk hk => ⟨.str _, H, I.kept hk, ⟨u, rfl⟩, q⟩) s4
section
variable {X : Cx} {Ω : Type} {env : Env} {pos np : Pos} {a : Expr} {P τ : Type} {S : Stor τ} {E : Enc τ} {e' : P → Env} {G : Env → Prop} {f : (τ → P → Option Ω) → Option Ω}
theorem lx_repr (hgd : X.A.guards = some []) (hu : X.A.units + 64 < cLine) (dv : Dv S E) (hm : X.mg "repr" = none) (ha : LO X G env a S e' f) (hG : ∀ p, G (e' p)) (hg : Gl X "repr" := by rfl) (he : starEach (a :: []) X.env = (false, eval a X.env) :: starEach [] X.env := by rfl) (hpl : (backTo pos (starEach [] X.env)).any (·.1) = false := by rfl) :
    LX X env (.Call (.Name "repr" np) [a] [] pos) (it eS) e' (fun k => f fun x p => (reprO (E.enc x)).bind fun y => k y p) :=
  lx_b1 (E := eS) (g := fun x : τ => reprO (E.enc x)) (cr_repr hgd hu) hm PyProof.Rows.boot_repr ha hG (fun K F H fp v x y Q hK s hy r q => by
    unfold reprO at hy
    by_cases c : showOk (E.enc x) = true
    · rw [if_pos c] at hy
      cases hy
      have hl : (E.enc x).canLay0 = true := by
        simp only [showOk, Bool.and_eq_true, decide_eq_true_eq] at c
        exact c.1.1.1
      exact ⟨v, E.enc x, rfl, by rw [← hK]; exact dv.dp s hl r, c, q _ (.str _)⟩
    · rw [if_neg c] at hy; cases hy) hg (by decide) (by decide) he hpl
end
section
variable {X : Cx} {Ω : Type} {env : Env} {pos : Pos} {a b : Expr} {P1 P2 : Type} {e1 : P1 → Env} {e2 : P1 → P2 → Env} {fa : (Str → P1 → Option Ω) → Option Ω} {fb : P1 → (Str → P2 → Option Ω) → Option Ω}
theorem lc_txt {op : CmpOp} {r : R2} {g : Str → Str → Bool} (ho : OpR X (compareOp op) r) (hr : ∀ i j H (Q : VK), Q (.bl (g i j)) H → r (.str i) (.str j) H Q) (ha : LX X env a (it eS) e1 fa) (hb : ∀ p1, LX X (e1 p1) b (it eS) (e2 p1) (fb p1)) :
    LC X env op a b (fun p : P1 × P2 => e2 p.1 p.2) (fun k => fa fun x p1 => fb p1 fun y p2 => k (g x y) (p1, p2)) :=
  lc_cmp ho (lo_of ha) (fun p1 => lo_of (hb p1)) (fun _ _ => trivial) (fun _ _ => trivial) fun K F H fp fq v u x y Q _ _ r1 r2 q => by
    obtain ⟨_, r1⟩ := r1
    obtain ⟨_, r2⟩ := r2
    cases r1; cases r2
    exact hr x y H Q q
theorem lc_eqS (ha : LX X env a (it eS) e1 fa) (hb : ∀ p1, LX X (e1 p1) b (it eS) (e2 p1) (fb p1)) : LC X env .Eq a b (fun p : P1 × P2 => e2 p.1 p.2) (fun k => fa fun x p1 => fb p1 fun y p2 => k (decide (x = y)) (p1, p2)) :=
  lc_txt op_eq (fun i j _ _ q => ⟨rfl, by simpa using q⟩) ha hb
theorem lc_neS (ha : LX X env a (it eS) e1 fa) (hb : ∀ p1, LX X (e1 p1) b (it eS) (e2 p1) (fb p1)) : LC X env .NotEq a b (fun p : P1 × P2 => e2 p.1 p.2) (fun k => fa fun x p1 => fb p1 fun y p2 => k (!decide (x = y)) (p1, p2)) :=
  lc_txt op_ne (fun i j _ _ q => ⟨rfl, by simpa using q⟩) ha hb
end
/-! ### in -/
def inB {τ : Type} [DecidableEq τ] (x : τ) (ys : List τ) : Bool := ys.any fun z => decide (z = x)
theorem inB_iff {τ : Type} [DecidableEq τ] {x : τ} {ys : List τ} : inB x ys = true ↔ x ∈ ys := by
  unfold inB
  rw [List.any_eq_true]
  exact ⟨fun ⟨z, hz, e⟩ => by rw [← of_decide_eq_true e]; exact hz, fun h => ⟨x, h, decide_eq_true rfl⟩⟩
section
variable {X : Cx} {Ω : Type} {env : Env} {a b : Expr} {P1 P2 τ1 : Type} {S1 : Stor τ1} {E1 : Enc τ1} {e1 : P1 → Env} {e2 : P1 → P2 → Env} {G1 : Env → Prop} {G2 : P1 → Env → Prop} {fa : (τ1 → P1 → Option Ω) → Option Ω}
theorem any_in [DecidableEq τ1] (ev : Ev E1) (x : τ1) (ys : List τ1) : ((ys.map E1.enc).any fun z => PyData.eqv z (E1.enc x)) = inB x ys := by
  rw [Bool.eq_iff_iff, inB_iff, List.any_eq_true]
  constructor
  · rintro ⟨z, hz, e⟩
    obtain ⟨y, hy, rfl⟩ := List.mem_map.1 hz
    rw [ev.eq, decide_eq_true_eq] at e
    rw [← e]; exact hy
  · intro h
    exact ⟨_, List.mem_map.2 ⟨x, h, rfl⟩, by rw [ev.eq]; exact decide_eq_true rfl⟩
theorem lc_inT [DecidableEq τ1] {S2 : Stor (List τ1)} {fb : P1 → (List τ1 → P2 → Option Ω) → Option Ω} {n : Nat} (hu : X.A.units + 65 < cLine) (d1 : Dv S1 E1) (d2 : Dv S2 (eL E1)) (t : Dt E1 n) (ev : Ev E1) (ha : LO X G1 env a S1 e1 fa) (hb : ∀ p1, LO X (G2 p1) (e1 p1) b S2 (e2 p1) (fb p1)) (g1 : ∀ p1 p2, G1 (e2 p1 p2)) (g2 : ∀ p1 p2, G2 p1 (e2 p1 p2)) (hn : n + 1 ≤ 64 := by decide) :
    LC X env .In a b (fun p : P1 × P2 => e2 p.1 p.2) (fun k => fa fun x p1 => fb p1 fun y p2 => k (inB x y) (p1, p2)) :=
  lc_cmp (op_inD hu) ha hb g1 g2 fun K F H fp fq v u x y Q hK s r1 r2 q => by
    subst hK
    exact ⟨_, _, d1.dp s (t.lay x) r1, d2.dp s ((dtL t).lay y) r2, shaped_of (t.lay x) (Nat.le_trans (t.dep x) (by omega)), shaped_of ((dtL t).lay y) (Nat.le_trans ((dtL t).dep y) hn), by rw [any_in ev]; exact q⟩
theorem lc_notInT [DecidableEq τ1] {S2 : Stor (List τ1)} {fb : P1 → (List τ1 → P2 → Option Ω) → Option Ω} {n : Nat} (hu : X.A.units + 65 < cLine) (d1 : Dv S1 E1) (d2 : Dv S2 (eL E1)) (t : Dt E1 n) (ev : Ev E1) (ha : LO X G1 env a S1 e1 fa) (hb : ∀ p1, LO X (G2 p1) (e1 p1) b S2 (e2 p1) (fb p1)) (g1 : ∀ p1 p2, G1 (e2 p1 p2)) (g2 : ∀ p1 p2, G2 p1 (e2 p1 p2)) (hn : n + 1 ≤ 64 := by decide) :
    LC X env .NotIn a b (fun p : P1 × P2 => e2 p.1 p.2) (fun k => fa fun x p1 => fb p1 fun y p2 => k (!inB x y) (p1, p2)) :=
  lc_cmp (op_notInD hu) ha hb g1 g2 fun K F H fp fq v u x y Q hK s r1 r2 q => by
    subst hK
    exact ⟨_, _, d1.dp s (t.lay x) r1, d2.dp s ((dtL t).lay y) r2, shaped_of (t.lay x) (Nat.le_trans (t.dep x) (by omega)), shaped_of ((dtL t).lay y) (Nat.le_trans ((dtL t).dep y) hn), by rw [any_in ev]; exact q⟩
end
end Z

set_option Elab.async false
set_option linter.all false
set_option maxRecDepth 100000
namespace Z
open PySem PySem.Spec PyProof.Rows L2

/-! ### spans (y, first, last) in plain words -/
abbrev Sp3 := Int × Int × Int
/-- x, y lies in a span -/
def InS (R : List Sp3) (x y : Int) : Prop := ∃ s ∈ R, s.1 = y ∧ s.2.1 ≤ x ∧ x ≤ s.2.2
/-- in order, with gaps -/
def Can (R : List Sp3) : Prop := (∀ s ∈ R, s.2.1 ≤ s.2.2) ∧ R.Pairwise fun s t => s.1 < t.1 ∨ (s.1 = t.1 ∧ s.2.2 + 1 < t.2.1)
theorem InS.nil {x y : Int} : ¬ InS [] x y := fun ⟨_, m, _⟩ => nomatch m
theorem InS.cons {s : Sp3} {R : List Sp3} {x y : Int} : InS (s :: R) x y ↔ (s.1 = y ∧ s.2.1 ≤ x ∧ x ≤ s.2.2) ∨ InS R x y := by
  constructor
  · rintro ⟨t, m, h⟩
    rcases List.mem_cons.1 m with rfl | m
    · exact .inl h
    · exact .inr ⟨t, m, h⟩
  · rintro (h | ⟨t, m, h⟩)
    · exact ⟨s, List.mem_cons_self .., h⟩
    · exact ⟨t, List.mem_cons_of_mem _ m, h⟩
theorem InS.app {R S : List Sp3} {x y : Int} : InS (R ++ S) x y ↔ InS R x y ∨ InS S x y := by
  constructor
  · rintro ⟨t, m, h⟩
    rcases List.mem_append.1 m with m | m
    · exact .inl ⟨t, m, h⟩
    · exact .inr ⟨t, m, h⟩
  · rintro (⟨t, m, h⟩ | ⟨t, m, h⟩)
    · exact ⟨t, List.mem_append_left _ m, h⟩
    · exact ⟨t, List.mem_append_right _ m, h⟩
theorem Can.tail {s : Sp3} {R : List Sp3} (h : Can (s :: R)) : Can R := ⟨fun t m => h.1 t (List.mem_cons_of_mem _ m), (List.pairwise_cons.1 h.2).2⟩
theorem Can.out {s : Sp3} {R : List Sp3} {x : Int} (h : Can (s :: R)) : InS R x s.1 → s.2.2 + 1 < x := by
  rintro ⟨t, m, e, a, b⟩
  rcases (List.pairwise_cons.1 h.2).1 t m with q | ⟨_, q⟩
  · omega
  · omega
theorem Can.head {s : Sp3} {R : List Sp3} {x y : Int} (h : Can (s :: R)) : InS (s :: R) x y → s.1 < y ∨ (s.1 = y ∧ s.2.1 ≤ x) := by
  rintro ⟨t, m, e, a, b⟩
  rcases List.mem_cons.1 m with rfl | m
  · exact .inr ⟨e, a⟩
  · have v := h.1 s (List.mem_cons_self ..)
    rcases (List.pairwise_cons.1 h.2).1 t m with q | ⟨q1, q⟩
    · exact .inl (by omega)
    · exact .inr ⟨by omega, by omega⟩
/-- one normal form for one set of cells -/
theorem Can.uniq : ∀ {R S : List Sp3}, Can R → Can S → (∀ x y, InS R x y ↔ InS S x y) → R = S
  | [], [], _, _, _ => rfl
  | [], t :: S, _, hS, h => absurd ((h t.2.1 t.1).2 ⟨t, List.mem_cons_self .., rfl, Int.le_refl _, hS.1 t (List.mem_cons_self ..)⟩) InS.nil
  | s :: R, [], hR, _, h => absurd ((h s.2.1 s.1).1 ⟨s, List.mem_cons_self .., rfl, Int.le_refl _, hR.1 s (List.mem_cons_self ..)⟩) InS.nil
  | s :: R, t :: S, hR, hS, h => by
    have vs := hR.1 s (List.mem_cons_self ..)
    have vt := hS.1 t (List.mem_cons_self ..)
    have a1 := hS.head ((h s.2.1 s.1).1 ⟨s, List.mem_cons_self .., rfl, Int.le_refl _, vs⟩)
    have a2 := hR.head ((h t.2.1 t.1).2 ⟨t, List.mem_cons_self .., rfl, Int.le_refl _, vt⟩)
    have e1 : s.1 = t.1 := by omega
    have e2 : s.2.1 = t.2.1 := by omega
    have e3 : s.2.2 = t.2.2 := by
      rcases Int.lt_trichotomy s.2.2 t.2.2 with q | q | q
      · have := (h (s.2.2 + 1) s.1).2 ⟨t, List.mem_cons_self .., e1.symm, by omega, by omega⟩
        rcases InS.cons.1 this with z | z
        · omega
        · have := hR.out z; omega
      · exact q
      · have := (h (t.2.2 + 1) t.1).1 ⟨s, List.mem_cons_self .., e1, by omega, by omega⟩
        rcases InS.cons.1 this with z | z
        · omega
        · have := hS.out z; omega
    have est : s = t := Prod.ext e1 (Prod.ext e2 e3)
    subst est
    rw [Can.uniq hR.tail hS.tail fun x y => ?_]
    have hh := h x y
    rw [InS.cons, InS.cons] at hh
    constructor
    · intro z
      rcases hh.1 (.inr z) with q | q
      · have := hR.out (x := x) (by rw [q.1]; exact z); omega
      · exact q
    · intro z
      rcases hh.2 (.inr z) with q | q
      · have := hS.out (x := x) (by rw [q.1]; exact z); omega
      · exact q
/-- one span more, behind all others in order of (y, first) -/
def stepJ (R : List Sp3) (s : Sp3) : List Sp3 := match R.getLast? with
  | some l => if l.1 = s.1 ∧ s.2.1 ≤ l.2.2 + 1 then R.dropLast ++ [(s.1, l.2.1, max l.2.2 s.2.2)] else R ++ [(s.1, s.2.1, s.2.2)]
  | none => R ++ [(s.1, s.2.1, s.2.2)]
/-- all of R begins at or ahead of (y, x) -/
def Ahead (R : List Sp3) (y x : Int) : Prop := ∀ t ∈ R, t.1 < y ∨ (t.1 = y ∧ t.2.1 ≤ x)
theorem stepJ_ok {R : List Sp3} {s : Sp3} (h : Can R) (v : s.2.1 ≤ s.2.2) (ha : Ahead R s.1 s.2.1) :
    Can (stepJ R s) ∧ (∀ x y, InS (stepJ R s) x y ↔ InS R x y ∨ (s.1 = y ∧ s.2.1 ≤ x ∧ x ≤ s.2.2)) ∧ Ahead (stepJ R s) s.1 s.2.1 ∧ (stepJ R s).length ≤ R.length + 1 := by
  have fresh : (∀ l, R.getLast? = some l → ¬ (l.1 = s.1 ∧ s.2.1 ≤ l.2.2 + 1)) → Can (R ++ [s]) ∧ (∀ x y, InS (R ++ [s]) x y ↔ InS R x y ∨ (s.1 = y ∧ s.2.1 ≤ x ∧ x ≤ s.2.2)) ∧ Ahead (R ++ [s]) s.1 s.2.1 ∧ (R ++ [s]).length ≤ R.length + 1 := fun hl => by
    refine ⟨⟨fun t m => ?_, List.pairwise_append.2 ⟨h.2, List.pairwise_singleton .., fun t m u mu => ?_⟩⟩, fun x y => ?_, fun t m => ?_, by simp⟩
    · rcases List.mem_append.1 m with m | m
      · exact h.1 t m
      · rw [List.mem_singleton] at m; subst m; exact v
    · rw [List.mem_singleton] at mu; subst mu
      rcases ha t m with q | ⟨q1, q2⟩
      · exact .inl q
      · refine .inr ⟨q1, ?_⟩
        -- t is no later than the last
        rcases List.eq_nil_or_concat R with e | ⟨R', l, e⟩
        · subst e; cases m
        · subst e
          have nl := hl l (by simp)
          rw [List.concat_eq_append] at m h
          rcases List.mem_append.1 m with m | m
          · have o := (List.pairwise_append.1 h.2).2.2 t m l (by simp)
            have vl := h.1 l (by simp)
            have al := ha l (by simp)
            omega
          · rw [List.mem_singleton] at m; subst m
            omega
    · rw [InS.app, InS.cons]
      constructor
      · rintro (q | q | q)
        · exact .inl q
        · exact .inr q
        · exact absurd q InS.nil
      · rintro (q | q)
        · exact .inl q
        · exact .inr (.inl q)
    · rcases List.mem_append.1 m with m | m
      · exact ha t m
      · rw [List.mem_singleton] at m; subst m; exact .inr ⟨rfl, Int.le_refl _⟩
  unfold stepJ
  rcases List.eq_nil_or_concat R with e | ⟨R', l, e⟩
  · subst e
    exact fresh fun l z => by simp at z
  · subst e
    rw [List.concat_eq_append] at h ha fresh ⊢
    rw [show (R' ++ [l]).getLast? = some l by simp]
    dsimp only
    by_cases c : l.1 = s.1 ∧ s.2.1 ≤ l.2.2 + 1
    · rw [if_pos c, show (R' ++ [l]).dropLast = R' by simp]
      have vl := h.1 l (by simp)
      have al := ha l (by simp)
      have pw := List.pairwise_append.1 h.2
      refine ⟨⟨fun t m => ?_, List.pairwise_append.2 ⟨pw.1, List.pairwise_singleton .., fun t m u mu => ?_⟩⟩, fun x y => ?_, fun t m => ?_, by simp⟩
      · rcases List.mem_append.1 m with m | m
        · exact h.1 t (by simp [m])
        · rw [List.mem_singleton] at m; subst m; dsimp only; omega
      · rw [List.mem_singleton] at mu; subst mu
        have := pw.2.2 t m l (by simp)
        dsimp only; omega
      · rw [InS.app, InS.app, InS.cons, InS.cons]
        dsimp only
        constructor
        · rintro (q | q | q)
          · exact .inl (.inl q)
          · by_cases z : x ≤ l.2.2
            · exact .inl (.inr (.inl (by omega)))
            · exact .inr (by omega)
          · exact absurd q InS.nil
        · rintro ((q | q | q) | q)
          · exact .inl q
          · exact .inr (.inl (by omega))
          · exact absurd q InS.nil
          · exact .inr (.inl (by omega))
      · rcases List.mem_append.1 m with m | m
        · exact ha t (by simp [m])
        · rw [List.mem_singleton] at m; subst m; exact .inr ⟨rfl, by dsimp only; omega⟩
    · rw [if_neg c]
      exact fresh fun l' z => by simp at z; subst z; exact c
/-- a row of spans in order of (y, first): all of them, in normal form -/
theorem foldJ_ok : ∀ (L R : List Sp3), Can R → (∀ s ∈ L, s.2.1 ≤ s.2.2) → (∀ s ∈ L, Ahead R s.1 s.2.1) → L.Pairwise (fun s t => s.1 < t.1 ∨ (s.1 = t.1 ∧ s.2.1 ≤ t.2.1)) →
    Can (L.foldl stepJ R) ∧ (∀ x y, InS (L.foldl stepJ R) x y ↔ InS R x y ∨ InS L x y) ∧ (L.foldl stepJ R).length ≤ R.length + L.length
  | [], R, h, _, _, _ => ⟨h, fun x y => ⟨.inl, fun z => z.elim id fun q => absurd q InS.nil⟩, by simp⟩
  | s :: L, R, h, hv, ha, hp => by
    obtain ⟨p1, p2⟩ := List.pairwise_cons.1 hp
    obtain ⟨s1, s2, s3, s4⟩ := stepJ_ok h (hv s (List.mem_cons_self ..)) (ha s (List.mem_cons_self ..))
    obtain ⟨i1, i2, i3⟩ := foldJ_ok L (stepJ R s) s1 (fun t m => hv t (List.mem_cons_of_mem _ m)) (fun t m u mu => by
      have a := s3 u mu
      have b := p1 t m
      omega) p2
    refine ⟨i1, fun x y => ?_, by rw [List.length_cons]; show (L.foldl stepJ (stepJ R s)).length ≤ _; omega⟩
    show InS (L.foldl stepJ (stepJ R s)) x y ↔ _
    rw [i2, s2, InS.cons]
    constructor
    · rintro ((q | q) | q)
      · exact .inl q
      · exact .inr (.inl q)
      · exact .inr (.inr q)
    · rintro (q | q | q)
      · exact .inl (.inl q)
      · exact .inl (.inr q)
      · exact .inr q
end Z

set_option Elab.async false
set_option linter.all false
set_option maxRecDepth 100000
namespace Z
open PySem PySem.Spec PyProof.Rows L2

/-! ### sorting of pairs and triples; walks that grow -/
theorem forO_grow {α β Ω : Type} (g : List β → α → List β) (N : Nat) (hg : ∀ s x, (g s x).length ≤ s.length + 1) {b : α → List β → (List β → Option Ω) → Option Ω} {k : List β → Option Ω} : ∀ (xs : List α) (s : List β), s.length + xs.length ≤ N →
    (∀ x ∈ xs, ∀ s kc, s.length + 1 ≤ N → b x s kc = kc (g s x)) → forO xs s b k = k (xs.foldl g s)
  | [], s, _, _ => rfl
  | x :: xs, s, hl, h => by
    rw [List.length_cons] at hl
    refine (h x (List.mem_cons_self ..) s _ (by omega)).trans ?_
    have := hg s x
    exact forO_grow g N hg xs (g s x) (by omega) fun y m => h y (List.mem_cons_of_mem _ m)
theorem lt3_no {x y : Sp3} : lt3 ltI ltI ltI x y = false ↔ ¬(x.1 < y.1 ∨ (x.1 = y.1 ∧ (x.2.1 < y.2.1 ∨ (x.2.1 = y.2.1 ∧ x.2.2 < y.2.2)))) := by
  unfold lt3 ltI
  by_cases c : x.1 = y.1
  · rw [if_pos c]
    by_cases d : x.2.1 = y.2.1
    · rw [if_pos d, decide_eq_false_iff_not]; omega
    · rw [if_neg d, decide_eq_false_iff_not]; omega
  · rw [if_neg c, decide_eq_false_iff_not]; omega
theorem lt3_yes {x y : Sp3} : lt3 ltI ltI ltI x y = true ↔ (x.1 < y.1 ∨ (x.1 = y.1 ∧ (x.2.1 < y.2.1 ∨ (x.2.1 = y.2.1 ∧ x.2.2 < y.2.2)))) := by
  rw [← Bool.not_eq_false, lt3_no]
  exact Classical.not_not
theorem sort3_pw (l : List Sp3) : (sortB (lt3 ltI ltI ltI) l).Pairwise fun s t => s.1 < t.1 ∨ (s.1 = t.1 ∧ s.2.1 ≤ t.2.1) := by
  have := List.pairwise_mergeSort (le := fun x y : Sp3 => !lt3 ltI ltI ltI y x) (fun a b c h1 h2 => by
    simp only [Bool.not_eq_true'] at h1 h2 ⊢
    rw [lt3_no] at h1 h2 ⊢; omega) (fun a b => by
    cases h : lt3 ltI ltI ltI b a with
    | false => rfl
    | true =>
      have : lt3 ltI ltI ltI a b = false := by
        rw [lt3_yes] at h; rw [lt3_no]; omega
      rw [this]; rfl) l
  exact this.imp fun {a b} h => by
    have h' : lt3 ltI ltI ltI b a = false := by simpa using h
    rw [lt3_no] at h'; omega
theorem sort2_pw (l : List (Int × Int)) : (sortB lpp l).Pairwise fun s t => s.1 < t.1 ∨ (s.1 = t.1 ∧ s.2 ≤ t.2) := by
  have := List.pairwise_mergeSort (le := fun x y : Int × Int => !lpp y x) (fun a b c h1 h2 => by
    simp only [Bool.not_eq_true'] at h1 h2 ⊢
    rw [lpp_no] at h1 h2 ⊢; omega) (fun a b => by
    cases h : lpp b a with
    | false => rfl
    | true =>
      have : lpp a b = false := by
        rw [lpp_iff] at h; rw [lpp_no]; omega
      rw [this]; rfl) l
  exact this.imp fun {a b} h => by
    have h' : lpp b a = false := by simpa using h
    rw [lpp_no] at h'; omega
theorem sortB_mem {α : Type} {lt : α → α → Bool} {l : List α} {x : α} : x ∈ sortB lt l ↔ x ∈ l := (List.mergeSort_perm _ _).mem_iff
theorem sortB_len {α : Type} {lt : α → α → Bool} {l : List α} : (sortB lt l).length = l.length := (List.mergeSort_perm _ _).length_eq
theorem InS.same {R S : List Sp3} (h : ∀ s, s ∈ R ↔ s ∈ S) {x y : Int} : InS R x y ↔ InS S x y :=
  ⟨fun ⟨s, m, q⟩ => ⟨s, (h s).1 m, q⟩, fun ⟨s, m, q⟩ => ⟨s, (h s).2 m, q⟩⟩
theorem Can.nil : Can [] := ⟨fun _ m => (nomatch m), List.Pairwise.nil⟩
/-- the normal form of any spans -/
theorem norm_ok {L : List Sp3} (hv : ∀ s ∈ L, s.2.1 ≤ s.2.2) : Can ((sortB (lt3 ltI ltI ltI) L).foldl stepJ []) ∧ (∀ x y, InS ((sortB (lt3 ltI ltI ltI) L).foldl stepJ []) x y ↔ InS L x y) ∧ ((sortB (lt3 ltI ltI ltI) L).foldl stepJ []).length ≤ L.length := by
  obtain ⟨a, b, c⟩ := foldJ_ok (sortB (lt3 ltI ltI ltI) L) [] Can.nil (fun s m => hv s (sortB_mem.1 m)) (fun s _ t m => nomatch m) (sort3_pw L)
  refine ⟨a, fun x y => ?_, by rw [sortB_len] at c; simpa using c⟩
  rw [b, InS.same (fun s => sortB_mem)]
  exact ⟨fun z => z.elim (fun q => absurd q InS.nil) id, .inr⟩
/-- of cells, told as (y, x) -/
def spanOf (p : Int × Int) : Sp3 := (p.1, p.2, p.2)
theorem cells_ok {L : List (Int × Int)} : Can (((sortB lpp (L.map fun c => (c.2, c.1))).map spanOf).foldl stepJ []) ∧ (∀ x y, InS (((sortB lpp (L.map fun c => (c.2, c.1))).map spanOf).foldl stepJ []) x y ↔ (x, y) ∈ L) ∧ (((sortB lpp (L.map fun c => (c.2, c.1))).map spanOf).foldl stepJ []).length ≤ L.length := by
  obtain ⟨a, b, c⟩ := foldJ_ok ((sortB lpp (L.map fun c => (c.2, c.1))).map spanOf) [] Can.nil (fun s m => by
    obtain ⟨p, _, rfl⟩ := List.mem_map.1 m; exact Int.le_refl _) (fun s _ t m => nomatch m) (List.pairwise_map.2 ((sort2_pw _).imp fun h => h))
  refine ⟨a, fun x y => ?_, by rw [List.length_map, sortB_len, List.length_map] at c; simpa using c⟩
  rw [b]
  constructor
  · rintro (q | ⟨s, m, q⟩)
    · exact absurd q InS.nil
    · obtain ⟨p, mp, rfl⟩ := List.mem_map.1 m
      obtain ⟨d, md, rfl⟩ := List.mem_map.1 (sortB_mem.1 mp)
      have e : d = (x, y) := by
        simp only [spanOf] at q
        exact Prod.ext (by show d.1 = x; omega) q.1
      rw [← e]; exact md
  · intro m
    exact .inr ⟨(y, x, x), List.mem_map.2 ⟨(y, x), sortB_mem.2 (List.mem_map.2 ⟨(x, y), m, rfl⟩), rfl⟩, rfl, Int.le_refl _, Int.le_refl _⟩
theorem stepJ_len (R : List Sp3) (s : Sp3) : (stepJ R s).length ≤ R.length + 1 := by
  unfold stepJ
  rcases List.eq_nil_or_concat R with e | ⟨R', l, e⟩
  · subst e; simp
  · subst e
    rw [List.concat_eq_append, show (R' ++ [l]).getLast? = some l by simp]
    dsimp only
    split <;> simp
theorem ixN_last {α : Type} {l : List α} {a : α} : ixN (l ++ [a]).length (-(1 : Int)) = some l.length := by
  unfold ixN
  rw [if_neg (by decide), if_pos (by simp; omega)]
  have : (-(1 : Int) + ((l ++ [a]).length : Int)).toNat = l.length := by simp; omega
  rw [this]
theorem set_last {α : Type} {l : List α} {a b : α} : (l ++ [a]).set l.length b = l ++ [b] := by
  rw [List.set_append_right _ _ (Nat.le_refl _), Nat.sub_self]; rfl
/-- how the last of a row is looked at: the program's way -/
theorem stepJ_run {Ω : Type} {t : List Sp3} {x : Sp3} {kc : List Sp3 → Option Ω} (hl : t.length + 1 ≤ SZ) :
    (if (decide ((0 : Int) < (List.length t : Int))) = true then ((atI t (-(1 : Int))).bind fun y69 =>
      if (decide (y69.1 = x.1)) = true then ((atI t (-(1 : Int))).bind fun y75 =>
        if (decide (x.2.1 ≤ (y75.2.2 + (1 : Int)))) = true then ((atI t (-(1 : Int))).bind fun y83 =>
          (atI t (-(1 : Int))).bind fun y86 =>
          (ixN (List.length t) (-(1 : Int))).bind fun n94 => kc (List.set t n94 (x.1, y83.2.1, (max y86.2.2 x.2.2))))
        else ck (decide (List.length t < SZ)) (kc (t ++ [(x.1, x.2.1, x.2.2)])))
      else (if false = true then ((atI t (-(1 : Int))).bind fun y83 =>
          (atI t (-(1 : Int))).bind fun y86 =>
          (ixN (List.length t) (-(1 : Int))).bind fun n94 => kc (List.set t n94 (x.1, y83.2.1, (max y86.2.2 x.2.2)))) else ck (decide (List.length t < SZ)) (kc (t ++ [(x.1, x.2.1, x.2.2)]))))
    else (if false = true then ((atI t (-(1 : Int))).bind fun y83 =>
          (atI t (-(1 : Int))).bind fun y86 =>
          (ixN (List.length t) (-(1 : Int))).bind fun n94 => kc (List.set t n94 (x.1, y83.2.1, (max y86.2.2 x.2.2)))) else ck (decide (List.length t < SZ)) (kc (t ++ [(x.1, x.2.1, x.2.2)])))) = kc (stepJ t x) := by
  rw [decide_eq_true (show t.length < SZ by omega), ck_true]
  unfold stepJ
  rcases List.eq_nil_or_concat t with e | ⟨R', l, e⟩
  · subst e; rfl
  · subst e
    rw [List.concat_eq_append, show (R' ++ [l]).getLast? = some l by simp, show (R' ++ [l]).dropLast = R' by simp, if_pos (decide_eq_true (show (0 : Int) < ((R' ++ [l]).length : Int) by rw [List.length_append, List.length_singleton]; omega)), atI_last, ixN_last]
    simp only [Option.bind_some, set_last]
    by_cases c : l.1 = x.1
    · by_cases d : x.2.1 ≤ l.2.2 + 1
      · rw [if_pos (decide_eq_true c), if_pos (decide_eq_true d), if_pos ⟨c, d⟩]
      · rw [if_pos (decide_eq_true c), if_neg (by simpa using d), if_neg (fun z => d z.2)]
    · rw [if_neg (show ¬ (decide (l.1 = x.1) = true) from fun z => c (of_decide_eq_true z)), if_neg (show ¬ (false = true) by decide), if_neg (show ¬ (l.1 = x.1 ∧ x.2.1 ≤ l.2.2 + 1) from fun z => c z.1)]
end Z

set_option Elab.async false
set_option linter.all false
set_option maxRecDepth 100000
namespace Z
open PySem PySem.Spec PyProof.Rows L2

/-! ### an own list read as data -/
theorem RelAll.asD {α : Type} {E : Enc α} {K : Fg} {F H : Hp} : ∀ {fps : List Addr} {vs : List V} {xs : List α}, RelAll ((it E).rel K F H) fps vs xs → RelAll ((it eD).rel K F H) fps vs (xs.map E.enc)
  | _, _, _, .nil => .nil
  | _, _, _, .cons h r => .cons h (RelAll.asD r)
section
variable {X : Cx} {R I Ω : Type} {SR : Stor R} {envR : I → Env} {kr : R → I → Option Ω} {bk ct : Lp Ω} {env : Env} {sts : List Stmt} {J : Type} {envJ : J → Env}
theorem lb_asD {f : (J → Option Ω) → Option Ω} {w : Option V} {α : Type} {E : Enc α} {xs : List α} (i : Nat) (he : env[i]? = some (.st w (List α) (ls (it E)) xs))
    (hr : LB X SR envR kr bk ct (env.set i (.st w (List PyData) (ls (it eD)) (xs.map E.enc))) sts envJ f) : LB X SR envR kr bk ct env sts envJ f :=
  fun C F H σs es σ kn ω D hK hl h hk qn qb qc qr => by
    obtain ⟨v, fp, e1, r, nd, ow, fin⟩ := h.mut (i := es.length + i) (by rw [at_app _ rfl]; exact he)
    obtain ⟨p, vs, fps, rfl, hp, ra, rfl⟩ := r
    have h2 := fin (List PyData) (ls (it eD)) (xs.map E.enc) H (p :: fps) (fun _ _ _ => rfl) (fun _ m => m) ⟨p, vs, fps, rfl, hp, ra.asD, rfl⟩ nd fun a m => ⟨(ow a m).2.2, .inl m⟩
    rw [List.set_append_right _ _ (Nat.le_add_right _ _), Nat.add_sub_cancel_left] at h2
    exact hr C F H σs es σ kn ω D hK hl h2 hk qn qb qc qr
end
/-! ### xs[::-1], order of tuples of ints -/
theorem RepAll.rev {K : Fg} {F : Hp} : ∀ {vs : List V} {ds : List PyData}, RepAll K F vs ds → RepAll K F vs.reverse ds.reverse
  | _, _, .nil => .nil
  | _, _, .cons h r => by
    rw [List.reverse_cons, List.reverse_cons]
    exact (RepAll.rev r).app (.cons h .nil)
section
variable {X : Cx} {Ω : Type} {env : Env} {pos p2 p3 p4 : Pos} {a b : Expr} {P P1 P2 τ α : Type} {S : Stor τ} {E : Enc α} {e' : P → Env} {g : τ → List α} {f : (τ → P → Option Ω) → Option Ω}
theorem lx_rev {k : Nat} (hv : LVw S (it E) g) (ha : LX X env a S e' f) : LX X env (.Subscript a (.Slice none none (some (.UnaryOp .USub (.Constant (.int 1) k p2) p3)) p4) pos) (ls (it E)) e' (fun kk => f fun x p => kk (g x).reverse p) :=
  fun C F H σs es σ k ω Q hK hl h hk q => tE.of X (pe_revL (peC X)) (lo_run (lo_of ha) (fun _ => trivial) hK hl h hk fun x p v F' H' fp hk' h' r => by
    obtain ⟨t0, vs, fps, rfl, l1, ra⟩ := hv.view h'.sF r
    have rr := ra.zero.2.rev
    rw [← List.map_reverse] at rr
    exact ⟨t0, vs, rfl, by rw [← hK]; exact l1, fun t nt => q _ p (.ref t) F' _ hk' (h'.newOw nt ⟨t, _, [], rfl, upd_same, rr.zero, rfl⟩)⟩)
end
def le3 (x y : Int × Int × Int) : Bool := if x.1 = y.1 then (if x.2.1 = y.2.1 then (if x.2.2 = y.2.2 then true else decide (x.2.2 ≤ y.2.2)) else decide (x.2.1 ≤ y.2.1)) else decide (x.1 ≤ y.1)
section
variable {X : Cx} {Ω : Type} {env : Env} {pos : Pos} {a b : Expr} {P1 P2 : Type} {e1 : P1 → Env} {e2 : P1 → P2 → Env} {fa : (Int × Int × Int → P1 → Option Ω) → Option Ω} {fb : P1 → (Int × Int × Int → P2 → Option Ω) → Option Ω}
theorem rep_t3 {K : Fg} {F H : Hp} {v : V} {x : Int × Int × Int} (s : Same F H) (h : Rep K F v ((eT3 eI eI eI).enc x)) : ∃ p, v = .ref p ∧ SqT K H p ([x.1, x.2.1, x.2.2].map V.int) := by
  obtain ⟨p, vs, rfl, h1, h2⟩ := Rep.tup_inv (ds := [.int x.1, .int x.2.1, .int x.2.2]) h
  have h3 : RepAll K F vs ([x.1, x.2.1, x.2.2].map eI.enc) := h2
  rw [h3.ints] at h1
  exact ⟨p, rfl, same_sqT s h1⟩
theorem lc_le3 (hu : X.A.units + 64 < cLine) (ha : LX X env a (it (eT3 eI eI eI)) e1 fa) (hb : ∀ p1, LX X (e1 p1) b (it (eT3 eI eI eI)) (e2 p1) (fb p1)) :
    LC X env .LtE a b (fun p : P1 × P2 => e2 p.1 p.2) (fun k => fa fun x p1 => fb p1 fun y p2 => k (le3 x y) (p1, p2)) :=
  lc_cmp (op_leT (by omega)) (lo_of ha) (fun p1 => lo_of (hb p1)) (fun _ _ => trivial) (fun _ _ => trivial) fun K F H fp fq v u x y Q hK s r1 r2 q => by
    subst hK
    obtain ⟨p, rfl, h1⟩ := rep_t3 s r1.2
    obtain ⟨p', rfl, h2⟩ := rep_t3 s r2.2
    refine ⟨p, p', _, _, rfl, rfl, h1, h2, ?_⟩
    have e : le3 x y = Ob.lexAt (fun j => decide ([x.1, x.2.1, x.2.2].getD j 0 = [y.1, y.2.1, y.2.2].getD j 0)) (fun j => decide ([x.1, x.2.1, x.2.2].getD j 0 ≤ [y.1, y.2.1, y.2.2].getD j 0)) (decide ([x.1, x.2.1, x.2.2].length ≤ [y.1, y.2.1, y.2.2].length)) 0 (min [x.1, x.2.1, x.2.2].length [y.1, y.2.1, y.2.2].length) := by
      show _ = Ob.lexAt _ _ _ 0 3
      rw [Ob.lexAt_succ, Ob.lexAt_succ, Ob.lexAt_succ, Ob.lexAt_zero]
      unfold le3
      simp
    rw [← e]; exact q
end
end Z

set_option Elab.async false
set_option linter.all false
set_option maxRecDepth 100000
namespace Z
open PySem PySem.Spec PyProof.Rows L2

/-! ### what data are, read back -/
structure Dec {τ : Type} (E : Enc τ) (g : PyData → Option τ) : Prop where
  ok : ∀ d x, g d = some x → E.enc x = d
  rt : ∀ x, g (E.enc x) = some x
def deI : PyData → Option Int | .int i => some i | _ => none
def deB : PyData → Option Bool | .bool i => some i | _ => none
def deS : PyData → Option Str | .str i => some i | _ => none
def deN : PyData → Option Unit | .none => some () | _ => none
def deD : PyData → Option PyData := some
def deAll {τ : Type} (g : PyData → Option τ) : List PyData → Option (List τ)
  | [] => some []
  | d :: ds => (g d).bind fun x => (deAll g ds).map fun xs => x :: xs
def deL {τ : Type} (g : PyData → Option τ) : PyData → Option (List τ) | .list ds => deAll g ds | _ => none
def deV {τ : Type} (g : PyData → Option τ) : PyData → Option (List τ) | .tuple ds => deAll g ds | _ => none
def deT2 {α β : Type} (a : PyData → Option α) (b : PyData → Option β) : PyData → Option (α × β)
  | .tuple [x, y] => (a x).bind fun u => (b y).map fun v => (u, v)
  | _ => none
def deT3 {α β γ : Type} (a : PyData → Option α) (b : PyData → Option β) (c : PyData → Option γ) : PyData → Option (α × β × γ)
  | .tuple [x, y, z] => (a x).bind fun u => (b y).bind fun v => (c z).map fun w => (u, v, w)
  | _ => none
def deT4 {α β γ δ : Type} (a : PyData → Option α) (b : PyData → Option β) (c : PyData → Option γ) (d : PyData → Option δ) : PyData → Option (α × β × γ × δ)
  | .tuple [x, y, z, t] => (a x).bind fun u => (b y).bind fun v => (c z).bind fun w => (d t).map fun s => (u, v, w, s)
  | _ => none
def deO {τ : Type} (g : PyData → Option τ) : PyData → Option (Option τ) | .none => some none | d => (g d).map some
section
variable {τ α β γ δ : Type} {E : Enc τ} {g : PyData → Option τ} {A : Enc α} {B : Enc β} {G : Enc γ} {D : Enc δ} {a : PyData → Option α} {b : PyData → Option β} {c : PyData → Option γ} {d : PyData → Option δ}
theorem dcI : Dec eI deI := ⟨fun d x h => by cases d <;> simp [deI] at h; subst h; rfl, fun _ => rfl⟩
theorem dcB : Dec eB deB := ⟨fun d x h => by cases d <;> simp [deB] at h; subst h; rfl, fun _ => rfl⟩
theorem dcS : Dec eS deS := ⟨fun d x h => by cases d <;> simp [deS] at h; subst h; rfl, fun _ => rfl⟩
theorem dcN : Dec eN deN := ⟨fun d x h => by cases d <;> simp [deN] at h; rfl, fun _ => rfl⟩
theorem dcD : Dec eD deD := ⟨fun d x h => by simp [deD] at h; subst h; rfl, fun _ => rfl⟩
theorem deAll_ok (h : Dec E g) : ∀ (ds : List PyData) (xs : List τ), deAll g ds = some xs → xs.map E.enc = ds
  | [], xs, e => by simp [deAll] at e; subst e; rfl
  | d :: ds, xs, e => by
    unfold deAll at e
    cases e1 : g d with
    | none => rw [e1] at e; cases e
    | some x =>
      rw [e1, Option.bind_some] at e
      cases e2 : deAll g ds with
      | none => rw [e2] at e; cases e
      | some ys =>
        rw [e2] at e
        cases e
        rw [List.map_cons, h.ok d x e1, deAll_ok h ds ys e2]
theorem deAll_rt (h : Dec E g) : ∀ xs : List τ, deAll g (xs.map E.enc) = some xs
  | [] => rfl
  | x :: xs => by rw [List.map_cons, deAll, h.rt, Option.bind_some, deAll_rt h xs]; rfl
theorem dcL (h : Dec E g) : Dec (eL E) (deL g) := ⟨fun d x e => by
  cases d <;> simp only [deL] at e <;> first | cases e | skip
  exact congrArg PyData.list (deAll_ok h _ _ e), fun x => deAll_rt h x⟩
theorem dcV (h : Dec E g) : Dec (eV E) (deV g) := ⟨fun d x e => by
  cases d <;> simp only [deV] at e <;> first | cases e | skip
  exact congrArg PyData.tuple (deAll_ok h _ _ e), fun x => deAll_rt h x⟩
theorem bind_eq' {α β : Type} {o : Option α} {f : α → Option β} {y : β} (h : o.bind f = some y) : ∃ x, o = some x ∧ f x = some y := bind_some h
theorem map_eq' {α β : Type} {o : Option α} {f : α → β} {y : β} (h : o.map f = some y) : ∃ x, o = some x ∧ f x = y := by
  cases o with
  | none => cases h
  | some x => exact ⟨x, rfl, Option.some.inj h⟩
theorem dcT2 (ha : Dec A a) (hb : Dec B b) : Dec (eT2 A B) (deT2 a b) := ⟨fun d x e => by
  unfold deT2 at e
  split at e
  · obtain ⟨u, e1, e⟩ := bind_some e
    obtain ⟨v, e2, e⟩ := map_eq' e
    subst e
    show PyData.tuple [A.enc u, B.enc v] = _
    rw [ha.ok _ _ e1, hb.ok _ _ e2]
  · exact absurd e (by simp), fun x => by
  show (a (A.enc x.1)).bind _ = _
  rw [ha.rt, Option.bind_some, hb.rt]; rfl⟩
theorem dcT3 (ha : Dec A a) (hb : Dec B b) (hc : Dec G c) : Dec (eT3 A B G) (deT3 a b c) := ⟨fun d x e => by
  unfold deT3 at e
  split at e
  · obtain ⟨u, e1, e⟩ := bind_some e
    obtain ⟨v, e2, e⟩ := bind_some e
    obtain ⟨w, e3, e⟩ := map_eq' e
    subst e
    show PyData.tuple [A.enc u, B.enc v, G.enc w] = _
    rw [ha.ok _ _ e1, hb.ok _ _ e2, hc.ok _ _ e3]
  · exact absurd e (by simp), fun x => by
  show (a (A.enc x.1)).bind _ = _
  rw [ha.rt, Option.bind_some, hb.rt, Option.bind_some, hc.rt]; rfl⟩
theorem dcT4 (ha : Dec A a) (hb : Dec B b) (hc : Dec G c) (hd : Dec D d) : Dec (eT4 A B G D) (deT4 a b c d) := ⟨fun d x e => by
  unfold deT4 at e
  split at e
  · obtain ⟨u, e1, e⟩ := bind_some e
    obtain ⟨v, e2, e⟩ := bind_some e
    obtain ⟨w, e3, e⟩ := bind_some e
    obtain ⟨z, e4, e⟩ := map_eq' e
    subst e
    show PyData.tuple [A.enc u, B.enc v, G.enc w, D.enc z] = _
    rw [ha.ok _ _ e1, hb.ok _ _ e2, hc.ok _ _ e3, hd.ok _ _ e4]
  · exact absurd e (by simp), fun x => by
  show (a (A.enc x.1)).bind _ = _
  rw [ha.rt, Option.bind_some, hb.rt, Option.bind_some, hc.rt, Option.bind_some, hd.rt]; rfl⟩
theorem dcO {hn : ∀ x, E.enc x ≠ .none} (h : Dec E g) : Dec (eO E hn) (deO g) := ⟨fun d x e => by
  unfold deO at e
  split at e
  · cases e; rfl
  · obtain ⟨y, e1, e⟩ := map_eq' e
    subst e
    exact h.ok _ _ e1, fun x => by
  cases x with
  | none => rfl
  | some x =>
    show deO g (E.enc x) = _
    unfold deO
    split
    · rename_i e; exact absurd e (hn x)
    · rw [h.rt]; rfl⟩
end
/-- a part of data -/
def partD (d : PyData) (n : Int) : Option PyData := match d with
  | .tuple ds => atI ds n
  | .list ds => atI ds n
  | _ => none

section
variable {X : Cx} {Ω : Type} {env : Env} {nm : Str} {pos np : Pos} {a b c e : Expr} {P P1 P2 P3 : Type} {τ τ1 τ2 α β : Type} {S : Stor τ} {S1 : Stor τ1} {S2 : Stor τ2} {E : Enc τ} {E1 : Enc τ1} {E2 : Enc τ2} {G : Env → Prop} {e' : P → Env} {e1 : P1 → Env} {e2 : P1 → P2 → Env} {e3 : P1 → P2 → P3 → Env} {f : (τ → P → Option Ω) → Option Ω}
theorem lx_dec {τ' : Type} {E' : Enc τ'} {g : PyData → Option τ'} (dc : Dec E' g) {f : (PyData → P → Option Ω) → Option Ω} (h : LX X env e (it eD) e' f) : LX X env e (it E') e' (fun (k : τ' → P → Option Ω) => f fun a p => (g a).bind fun b => k b p) :=
  lx_cast h g fun d b hb => dc.ok d b hb
/-- d[n] of data -/
theorem lx_ixD {fa : (PyData → P1 → Option Ω) → Option Ω} {fb : P1 → (Int → P2 → Option Ω) → Option Ω} (ha : LX X env a (it eD) e1 fa) (hb : ∀ p1, LX X (e1 p1) b (it eI) (e2 p1) (fb p1)) (hp : PlainIx b := by exact fun _ _ => rfl) :
    LX X env (.Subscript a b pos) (it eD) (fun p : P1 × P2 => e2 p.1 p.2) (fun k => fa fun x p1 => fb p1 fun i p2 => (partD x i).bind fun y => k y (p1, p2)) :=
  fun C F H σs es σ k ω Q hK hl h hk q => tE.of X (pe_ix ix_seq (peC X) (peC X) hp) (op2_run (lo_of ha) (fun p1 => lo_of (hb p1)) (fun _ _ => trivial) (fun _ _ => trivial) hK hl h hk
    fun x p1 i p2 v u F' H' fp fq hk' h' r1 r2 => by
      obtain ⟨y, hy, hk2⟩ := bind_some hk'
      clear hk'
      obtain ⟨_, r2⟩ := r2
      obtain ⟨_, r1⟩ := r1
      cases r2
      have r1' : Rep C.K F' v x := r1
      unfold partD at hy
      split at hy
      · obtain ⟨p, vs, rfl, h1, h2⟩ := r1'.tup_inv
        obtain ⟨w, hw, rw'⟩ := h2.atD hy
        exact .inr (.inl ⟨p, vs, i, w, rfl, rfl, by rw [← hK]; exact same_sqT h'.sF h1, hw, q y (p1, p2) w F' H' hk2 (h'.pushSh rw')⟩)
      · obtain ⟨p, vs, rfl, h1, h2⟩ := r1'.lst_inv
        obtain ⟨w, hw, rw'⟩ := h2.atD hy
        exact .inl ⟨p, vs, i, w, rfl, rfl, by rw [← hK]; exact SqL.of (h'.sF _ _ h1), hw, q y (p1, p2) w F' H' hk2 (h'.pushSh rw')⟩
      · cases hy)
/-- is a list not empty -/
theorem lt_tru {g : τ → List α} {Sa : Stor α} (hv : LVw S Sa g) (ha : LO X G env a S e' f) (hG : ∀ p, G (e' p)) (he : ∀ whole, isTrue a X.env whole = (do let v ← whole; standAt a.pos; holding [v] (truthy v)) := by intro _; rfl) :
    LT X env a e' (fun k => f fun x p => k (!(g x).isEmpty) p) :=
  fun C F H σs es σ k ω Q hK hl h hk q => tT.of X (pt_truth (peC X) he) (lo_run ha hG hK hl h hk fun x p v F' H' fp hk' h' rr => by
    obtain ⟨t, vs, fps, rfl, h1, h2⟩ := hv.view h'.sF rr
    refine ⟨!(g x).isEmpty, .inl ⟨vs, by rw [← hK]; exact h1, ?_⟩, q _ p F' H' hk' h'⟩
    have := h2.length
    cases vs <;> cases hgx : g x <;> rw [hgx] at this <;> simp_all)
/-- a tuple of a kind: never empty -/
theorem lt_truI {f : (Int → P → Option Ω) → Option Ω} (ha : LX X env a (it eI) e' f) (he : ∀ whole, isTrue a X.env whole = (do let v ← whole; standAt a.pos; holding [v] (truthy v)) := by intro _; rfl) :
    LT X env a e' (fun k => f fun x p => k (x != 0) p) :=
  fun C F H σs es σ k ω Q hK hl h hk q => tT.of X (pt_truth (peC X) he) (lo_run (lo_of ha) (fun _ => trivial) hK hl h hk fun x p v F' H' fp hk' h' rr => by
    obtain ⟨_, rr⟩ := rr
    cases rr
    exact ⟨x != 0, rfl, q _ p F' H' hk' h'⟩)
end
end Z

set_option Elab.async false
set_option linter.all false
set_option maxRecDepth 100000
namespace Z
open PySem PySem.Spec PyProof.Rows L2

/-! ### set(xs) of ints, sorted -/
section
variable {P : Program} {w : World} {A : Around} {E : Value → Shared → Prop} {s : Shared}
def inSet (val : Nat → Int) (i : Nat) (z : Int) : Bool := ((List.range i).map val).any fun y => y == z
theorem inSet_step (val : Nat → Int) (i : Nat) (z : Int) : inSet val (i + 1) z = (inSet val i z || decide (z = val i)) := by
  unfold inSet
  rw [List.range_succ, List.map_append, List.any_append]
  simp only [List.map_cons, List.map_nil, List.any_cons, List.any_nil, Bool.or_false]
  congr 1
  by_cases h : val i = z
  · rw [beq_iff_eq.2 h, decide_eq_true h.symm]
  · rw [beq_eq_false_iff_ne.2 h, decide_eq_false fun q => h q.symm]
theorem setR_loop {I : Addr} {fp wr : List Addr} {Γ : Array GenState → Array GenState → Prop} {n : Nat} {Pv : Nat → Value → Prop} {St : Nat → Shared → Prop} {R : Result → Shared → Prop} (W : WalksS P w A.in1 I fp wr Γ n Pv St) (d : Addr) (hd : d ∉ fp)
    (val : Nat → Int) (hval : ∀ i v, Pv i v → ∃ t, v = .int (val i) t) (hb : n + 1 < scanBound) : ∀ (k i : Nat) (s : Shared), n - i = k → i ≤ n → St i s → (∃ c, SetR w s.heap d (inSet val i) c ∧ c ≤ i) →
    (∀ s' c, Moved (d :: wr) Γ s s' → SetR w s'.heap d (inSet val n) c → c ≤ n → R (.ok (.ret .none)) s') → codeAny (model P w) A (.builtin "set.update.loop" ⟨[.ref d, .ref I], []⟩) R s := by
  have hdw : d ∉ wr := fun h => hd (W.sub _ h)
  have up : ∀ b ∈ wr, b ∈ d :: wr := fun b m => List.mem_cons_of_mem _ m
  intro k
  induction k with
  | zero =>
    rintro i s hk hi hst ⟨c, hc, hci⟩ hR
    obtain rfl : i = n := by omega
    refine codeAny_builtin PyProof.Rows.F.entry_set_update_loop ?_; rw [Around.under_plainId PyProof.Rows.F.plain_set_update_loop _]
    show wpAny _ A.in1 (pyNext (.ref I) >>= _) _ _ s; refine wpAny_bind (W.done s _ _ hst fun s' hm => ?_)
    show wpAny _ A.in1 (ret Value.none) _ _ s'; exact wpAny_pure (hR s' c (hm.mono up) (hc.at fun o e => hm.heap d o hdw e) hci)
  | succ k ih =>
    rintro i s hk hi hst ⟨c, hc, hci⟩ hR
    have hlt : i < n := by omega
    refine codeAny_builtin PyProof.Rows.F.entry_set_update_loop ?_; rw [Around.under_plainId PyProof.Rows.F.plain_set_update_loop _]
    show wpAny _ A.in1 (pyNext (.ref I) >>= _) _ _ s; refine wpAny_bind (W.item i s _ _ hlt hst fun v s' hP hst' hm => ?_)
    obtain ⟨t, rfl⟩ := hval i v hP
    have hc' : SetR w s'.heap d (inSet val i) c := hc.at fun o e => hm.heap d o hdw e
    show wpAny _ A.in1 (holding [Value.int (val i) t] (setAdd d (.int (val i) t)) >>= _) _ _ s'; refine wpAny_bind (wpAny_holding ?_)
    unfold setAdd; refine wpAny_holding (wpAny_bind ((intKind P w).pyHash (k := val i) (intKind_is P w _ _) ?_))
    refine setR_add_hashed (s := { s' with toks := s'.toks + 1 }) hc' (by omega) fun h' sb r => ?_
    have r' : SetR w h' d (inSet val (i + 1)) (if inSet val i (val i) = true then c else c + 1) := r.congr fun z => inSet_step val i z
    refine wpAny_pure ⟨plainId_quiet PyProof.Rows.F.plain_set_update_loop _, ih (i + 1) _ (by omega) hlt (W.frame _ s' _ _ hst' (Nat.le_succ _) fun b m o e => ?_) ⟨_, r', by split <;> omega⟩ fun s2 c2 hm2 h2 l2 => hR s2 c2 (Moved.trans W.gtrans ((hm.mono up).then_heap (Nat.le_succ _) fun b o m e => ?_) hm2) h2 l2⟩
    · rw [sb.2 b (fun q : b = d => hd (q ▸ m))]; exact e
    · rw [sb.2 b (fun q : b = d => m (q ▸ List.mem_cons_self))]; exact e
abbrev newSet (w : World) : Obj := { cls := .type "set", dict := none, data := .set #[] 0 (.fresh 0 0 (!w.params.followText "set-order")) }
set_option maxHeartbeats 3200000 in
theorem setR_list {l : Addr} {items : Array Value} {ns : List Int} {Q : Value → Shared → Prop} (hh : A.handled = none) (hl : s.heap.IsList l items) (hi : IntsAre items.toList ns) (hb : items.size + 1 < scanBound)
    (h : ∀ (h' : Heap) (tk c : Nat), SetR w h' s.heap.objs.size (inSet (fun i => ns.getD i 0) items.size) c → c ≤ items.size → (∀ b o, s.heap.get? b = some o → h'.get? b = some o) → Q (.ref s.heap.objs.size) { s with heap := h', toks := tk }) :
    wpAny (model P w) A (call (.type "set") [.ref l]) Q E s := by
  obtain ⟨c0, tl, hmro⟩ := PySem.F.called_set.mro
  have hmade := PySem.F.called_set.made; have hsub := PySem.F.called_set.sub
  refine wpAny_call (codeAny_of_tree ?_); show wpAny _ _ (callAny (.type "set") _) _ _ _
  refine wpAny_pure ⟨Code.quiet_builtin _ (by decide +kernel), codeAny_builtin PySem.F.entry_type_call ?_⟩; rw [Around.under_plain (weight_type_call_type "set" [.ref l] []) rfl]
  have h1 := PySem.F.called_set.notType; have h2 := PySem.F.called_set.canCreate; have hct := PySem.F.typeCall_set_1 (.ref l)
  repeat (any_goals (first | assumption | wp_step))
  refine codeAny_mono (code_set_led1 (.ref l) (E := E) (Q₁ := fun obj s₁ => obj = .ref s.heap.objs.size ∧ s₁ = { s with heap := s.heap.push (newSet w) }) ⟨rfl, rfl⟩) fun r s₁ hr => ?_
  cases r with
  | error e => exact hr
  | ok fl =>
    cases fl with
    | ret obj =>
      obtain ⟨rfl, rfl⟩ := hr
      have hS : (s.heap.push (newSet w)).get? s.heap.objs.size = some (newSet w) := Heap.get?_push_size _ rfl
      have hT : Shared.TypeIs { s with heap := s.heap.push (newSet w) } (.ref s.heap.objs.size) "set" := ⟨_, hS, rfl⟩
      have hli := PySem.F.called_set.init.lookup; have hbi := PySem.F.called_set.init.bind (.ref s.heap.objs.size)
      repeat (any_goals (first | assumption | wp_step))
      refine codeAny_mono (codeAny_call_builtin (R := wants (fun r s₂ => r = .none ∧ ∃ h' tk c, s₂ = { s with heap := h', toks := tk } ∧ SetR w h' s.heap.objs.size (inSet (fun i => ns.getD i 0) items.size) c ∧ c ≤ items.size ∧ (∀ b o, s.heap.get? b = some o → h'.get? b = some o)) E) PySem.F.called_set.init.plain PySem.F.entry_set_init (check_set_init_1 hT ?_)) fun r₂ s₂ hr₂ => ?_
      · obtain ⟨ol, hol, hcl, nl, hdl⟩ := hl
        obtain ⟨ocls, odict, odata, oslots⟩ := ol
        simp only at hcl hdl; subst hcl; subst hdl
        have hol' : (s.heap.push (newSet w)).get? l = some { cls := .type "list", dict := odict, data := .seq items nl, slots := oslots } := Heap.get?_push_of_some _ hol
        have hsls := PySem.F.sub_list_set; have hslf := PySem.F.sub_list_frozenset
        have hne : (Value.type "list" == Value.type "dict") = false := by decide
        have hl1 : (s.heap.push (newSet w)).IsList l items := ⟨_, hol', rfl, nl, rfl⟩
        unfold Builtin.«set.__init__» noKeywords Builtin.Frozenset.updateFrom; generalize hPI : pyIter = PI
        wp_walk; subst hPI
        refine wpAny_pyIter_list hl1 (wpAny_bind (wpAny_runValue ?_))
        have hlS : l < s.heap.objs.size := Heap.lt_size hol
        have hz1 : (s.heap.push (newSet w)).objs.size = s.heap.objs.size + 1 := Heap.size_push ..
        have hneI : l ≠ (s.heap.push (newSet w)).objs.size := by rw [hz1]; exact Nat.ne_of_lt (Nat.lt_succ_of_lt hlS)
        have hSf : s.heap.objs.size ∉ [(s.heap.push (newSet w)).objs.size, l] := by
          rw [hz1]; intro m; rcases List.mem_cons.1 m with q | m; exact absurd q (Nat.ne_of_lt (Nat.lt_succ_self _)); exact absurd (List.mem_singleton.1 m) (Nat.ne_of_gt hlS)
        have hval : ∀ (i : Nat) (v : Value), items[i]? = some v → ∃ t, v = .int ((fun i => ns.getD i 0) i) t := fun i v hv => PyProof.Rows.IntsAre.int_at hi i v (by rw [Array.getElem?_toList]; exact hv)
        refine setR_loop ((Walks.list (show A.in1.in1.in1.handled = none by simp [hh]) _ l hneI items).toS) s.heap.objs.size hSf (fun i => ns.getD i 0) hval hb (items.size - 0) 0 _ (by omega) (Nat.zero_le _) ⟨⟨_, Heap.get?_push_size _ rfl, rfl, rfl⟩, (hl1.push _)⟩ ⟨0, ?hS0, Nat.le_refl _⟩ ?hR
        case hS0 =>
          exact ((setR_fresh (h := s.heap) w).at fun o e => Heap.get?_push_of_some _ e).congr fun _ => rfl
        case hR =>
          rintro ⟨h', g2, d', tk', os'⟩ c hm hS' hc
          obtain rfl : g2 = s.gens := hm.gens
          obtain rfl : d' = s.drawn := hm.drawn
          obtain rfl : os' = s.os := hm.os
          show wpAny _ _ _ _ _ _; refine wpAny_pure ?_; show wpAny _ _ (ret Value.none) _ _ _
          refine wpAny_pure ⟨rfl, h', tk', c, rfl, hS', hc, fun b o e => ?_⟩
          have hb0 := Heap.lt_size e
          exact hm.heap b o (by rw [hz1]; intro m; rcases List.mem_cons.1 m with q | m; exact absurd q (Nat.ne_of_lt hb0); exact absurd (List.mem_singleton.1 m) (Nat.ne_of_lt (Nat.lt_succ_of_lt hb0))) (Heap.get?_push_of_some _ (Heap.get?_push_of_some _ e))
      · cases r₂ with
        | error e => exact hr₂
        | ok fl₂ =>
          cases fl₂ with
          | ret r =>
            obtain ⟨rfl, h', tk, c, rfl, hS', hc, hk'⟩ := hr₂
            repeat (any_goals (first | assumption | wp_step))
            exact h _ _ _ hS' hc hk'
          | _ => exact hr₂.elim
    | _ => exact hr.elim
end
section
variable {X : Cx}
def rSetI (K : Fg) (w : World) : List V → Hp → VK → Prop := fun vs H Q => ∃ (l : Addr) (ns : List Int), vs = [V.ref l] ∧ SqL K H l (ns.map V.int) ∧ ns.length < 64 ∧
  ∀ p S c, H p = none → (∀ z : Int, S z = true ↔ z ∈ ns) → c < 64 → Q (.ref p) (upd H p (SetO w p S c))
theorem cr_setI (hc : X.calm = true) : CallR X (.type "set") (rSetI X.K X.w) := by
  intro pins s σ H vs us Q I r h
  obtain ⟨l, ns, rfl, hs, h64, q⟩ := h
  rw [Vals.ref1 r]
  obtain ⟨uts, rv, pl, hz⟩ := I.list hs
  have hi := intsAre_of rv
  have hlen : uts.length = ns.length := by have := rv.length; simpa using this.symm
  refine setR_list (items := uts.toArray) (ns := ns) (I.ok.hd hc) pl.isList (by simpa using hi) (by simp [hlen]; unfold scanBound; omega) fun h' tk c R hc hk => ?_
  have hn : H s.heap.objs.size = none := I.hok.fresh (Nat.le_refl _)
  refine ⟨.ref _, upd H s.heap.objs.size (SetO X.w s.heap.objs.size (inSet (fun i => ns.getD i 0) uts.toArray.size) c), I.laid (t' := tk) hk (Nat.le_refl _) (setO_new R), rfl, q _ _ c hn (fun z => ?_) (by simp [hlen] at hc; omega)⟩
  unfold inSet
  rw [List.any_eq_true]
  simp only [List.mem_map, List.mem_range, beq_iff_eq, List.size_toArray, hlen]
  constructor
  · rintro ⟨y, ⟨i, hi, rfl⟩, rfl⟩
    rw [List.getD_eq_getElem?_getD, List.getElem?_eq_getElem hi]
    exact List.getElem_mem hi
  · intro m
    obtain ⟨i, hi, e⟩ := List.mem_iff_getElem.1 m
    exact ⟨z, ⟨i, hi, by rw [List.getD_eq_getElem?_getD, List.getElem?_eq_getElem hi, e]; rfl⟩, rfl⟩
/-- the members, ascending, each once -/
def usort : List Int → List Int
  | [] => []
  | x :: xs => let r := usort xs; if x ∈ r then r else r.filter (· < x) ++ x :: r.filter (x < ·)
theorem usort_mem {xs : List Int} {z : Int} : z ∈ usort xs ↔ z ∈ xs := by
  induction xs generalizing z with
  | nil => simp [usort]
  | cons x xs ih =>
    simp only [usort]
    split
    · rename_i h
      rw [ih] at h
      rw [ih, List.mem_cons]
      exact ⟨.inr, fun q => q.elim (fun e => e ▸ h) id⟩
    · rename_i h
      simp only [List.mem_append, List.mem_filter, List.mem_cons, decide_eq_true_eq, ih] at h ⊢
      constructor
      · rintro (q | q | q)
        · exact .inr q.1
        · exact .inl q
        · exact .inr q.1
      · rintro (q | q)
        · exact .inr (.inl q)
        · by_cases c : z < x
          · exact .inl ⟨q, c⟩
          · by_cases d : z = x
            · exact .inr (.inl d)
            · exact .inr (.inr ⟨q, by omega⟩)
theorem usort_pw : ∀ (xs : List Int), (usort xs).Pairwise (· < ·)
  | [] => List.Pairwise.nil
  | x :: xs => by
    have ih := usort_pw xs
    simp only [usort]
    split
    · exact ih
    · refine List.pairwise_append.2 ⟨ih.filter _, List.pairwise_cons.2 ⟨fun y m => by simpa using (List.mem_filter.1 m).2, ih.filter _⟩, fun y m z n => ?_⟩
      have hy : y < x := by simpa using (List.mem_filter.1 m).2
      rcases List.mem_cons.1 n with rfl | n
      · exact hy
      · have : x < z := by simpa using (List.mem_filter.1 n).2
        omega
theorem asc_uniq : ∀ {xs ys : List Int}, xs.Pairwise (· < ·) → ys.Pairwise (· < ·) → (∀ z, z ∈ xs ↔ z ∈ ys) → xs = ys
  | [], [], _, _, _ => rfl
  | [], y :: ys, _, _, h => by have := (h y).2 (List.mem_cons_self ..); cases this
  | x :: xs, [], _, _, h => by have := (h x).1 (List.mem_cons_self ..); cases this
  | x :: xs, y :: ys, p, q, h => by
    obtain ⟨p1, p2⟩ := List.pairwise_cons.1 p
    obtain ⟨q1, q2⟩ := List.pairwise_cons.1 q
    have e : x = y := by
      rcases List.mem_cons.1 ((h x).1 (List.mem_cons_self ..)) with e | m
      · exact e
      · rcases List.mem_cons.1 ((h y).2 (List.mem_cons_self ..)) with e | n
        · exact e.symm
        · have := p1 y n; have := q1 x m; omega
    subst e
    rw [asc_uniq p2 q2 fun z => ?_]
    constructor
    · intro m
      rcases List.mem_cons.1 ((h z).1 (List.mem_cons_of_mem _ m)) with e | n
      · have := p1 z m; omega
      · exact n
    · intro m
      rcases List.mem_cons.1 ((h z).2 (List.mem_cons_of_mem _ m)) with e | n
      · have := q1 z m; omega
      · exact n
theorem usort_is {xs ys : List Int} (p : ys.Pairwise (· < ·)) (h : ∀ z, z ∈ ys ↔ z ∈ xs) : ys = usort xs := asc_uniq p (usort_pw xs) fun z => by rw [usort_mem, h]
end
section
variable {X : Cx} {Ω : Type} {env : Env} {pos pos2 np np2 : Pos} {a : Expr} {P : Type} {τ : Type} {S : Stor τ} {G : Env → Prop} {e' : P → Env} {f : (τ → P → Option Ω) → Option Ω} {g : τ → List Int}
/-- sorted(set(xs)) of ints, fewer than 64 -/
theorem lx_usort (hc : X.calm = true) (hv : LVw S (it eI) g) (hm : X.mg "sorted" = none) (hm2 : X.mg "set" = none) (ha : LO X G env a S e' f) (hG : ∀ p, G (e' p)) (hg : Gl X "sorted" := by rfl) (hg2 : Gl X "set" := by rfl)
    (he : starEach (a :: []) X.env = (false, eval a X.env) :: starEach [] X.env := by rfl) (he2 : starEach (Expr.Call (.Name "set" np2) [a] [] pos2 :: []) X.env = (false, eval (Expr.Call (.Name "set" np2) [a] [] pos2) X.env) :: starEach [] X.env := by rfl)
    (hpl : (backTo pos (starEach [] X.env)).any (·.1) = false := by rfl) (hpl2 : (backTo pos2 (starEach [] X.env)).any (·.1) = false := by rfl) :
    LX X env (.Call (.Name "sorted" np) [.Call (.Name "set" np2) [a] [] pos2] [] pos) (ls (it eI)) e' (fun k => f fun x p => ck (decide ((g x).length < 64)) (k (usort (g x)) p)) :=
  fun C F H σs es σ k ω Q hK hl h hk q => tE.of X (pe_callB (cr_sortedSet hc) hg hm boot_sorted (pa_cons (pe_callTy (cr_setI hc) hg2 hm2 PyProof.Rows.boot_set (pa_cons (peC X) pa_nil he) (by decide) (by decide) he hpl2) pa_nil he2) (by decide) (by decide) he2 hpl)
    (lo_run ha hG hK hl h hk fun x p v F' H' fp hk' h' rr => by
      obtain ⟨hc, hk2⟩ := ck_some hk'
      clear hk'
      obtain ⟨t, vs, fps, rfl, h1, h2⟩ := hv.view h'.sF rr
      have := h2.zero.2.ints
      subst this
      refine ⟨t, g x, rfl, by rw [← hK]; exact h1, of_decide_eq_true hc, fun d S c nd hS hc => ?_⟩
      refine ⟨d, S, c, rfl, upd_same, hc, fun ns b pw hm hl nb => ?_⟩
      have e := usort_is (xs := g x) pw fun z => by rw [hm, hS]
      subst e
      have h3 := h'.newH (u := SetO X.w d S c) nd
      exact q _ p _ F' _ hk2 (h3.newOw nb ⟨b, _, [], rfl, upd_same, (RepAll.ofInts (usort (g x))).zero, rfl⟩))
end
end Z

set_option Elab.async false
set_option linter.all false
set_option maxRecDepth 100000
namespace Z
open PySem PySem.Spec PyProof.Rows L2

section
variable {X : Cx} {Ω : Type} {env : Env} {nm nm2 nm3 : Str} {pos np tp : Pos} {a b c e : Expr} {P P1 P2 P3 : Type} {τ τ1 τ2 τ3 α β : Type} {S : Stor τ} {S1 : Stor τ1} {S2 : Stor τ2} {S3 : Stor τ3} {E : Enc τ} {E1 : Enc τ1} {E2 : Enc τ2} {E3 : Enc τ3} {G : Env → Prop} {e' : P → Env} {e1 : P1 → Env} {e2 : P1 → P2 → Env} {e3 : P1 → P2 → P3 → Env} {f : (τ → P → Option Ω) → Option Ω}
/-! ### a < b < c of ints -/
section
variable {op op' : CmpOp} {r r' : R2} {g g' : Int → Int → Bool} {fa : (Int → P1 → Option Ω) → Option Ω} {fb : P1 → (Int → P2 → Option Ω) → Option Ω} {fc : P1 → P2 → (Int → P3 → Option Ω) → Option Ω}
structure CoI (X : Cx) (op : CmpOp) (g : Int → Int → Bool) : Prop where
  ex : ∃ r, OpR X (compareOp op) r ∧ ∀ i j H (Q : VK), Q (.bl (g i j)) H → r (.int i) (.int j) H Q
theorem coLt : CoI X .Lt fun x y => decide (x < y) := ⟨_, op_lt, fun i j _ _ q => ⟨i, j, rfl, rfl, q⟩⟩
theorem coLe : CoI X .LtE fun x y => decide (x ≤ y) := ⟨_, op_le, fun i j _ _ q => ⟨i, j, rfl, rfl, q⟩⟩
theorem chain_run (ha : LX X env a (it eI) e1 fa) (hb : ∀ p1, LX X (e1 p1) b (it eI) (e2 p1) (fb p1)) (hc : ∀ p1 p2, LX X (e2 p1 p2) c (it eI) (e3 p1 p2) (fc p1 p2)) (hs : ∀ p1 p2 p3, Sub (e3 p1 p2 p3) (e2 p1 p2))
    (hr : ∀ i j H (Q : VK), Q (.bl (g i j)) H → r (.int i) (.int j) H Q) (hr' : ∀ i j H (Q : VK), Q (.bl (g' i j)) H → r' (.int i) (.int j) H Q)
    {C : Ck} {F H : Hp} {σs : List (Option V)} {es : Env} {σ : List (Option V)} {k : Bool → P1 × P2 → Option Ω} {ω : Ω} {R : VK} (hK : C.K = X.K) (hl : σs.length = es.length) (h : ER C F H (σs ++ σ) (es ++ env))
    (hk : (fa fun x p1 => fb p1 fun y p2 => if g x y = true then fc p1 p2 fun z _ => k (g' y z) (p1, p2) else k false (p1, p2)) = some ω)
    (q : ∀ b p1 p2 F' H', k b (p1, p2) = some ω → ER C F' H' (σs ++ σ) (es ++ e2 p1 p2) → R (.bl b) H') : tChain r r' (tE X a) (tE X b) (tE X c) σ H R :=
  op2_run (lo_of ha) (fun p1 => lo_of (hb p1)) (fun _ _ => trivial) (fun _ _ => trivial) hK hl h hk fun x p1 y p2 v u F' H' fp fq hk' h' r1 r2 => by
    obtain ⟨_, r1⟩ := r1
    obtain ⟨_, r2⟩ := r2
    cases r1; cases r2
    refine hr x y H' _ ⟨g x y, rfl, ?_⟩
    cases gx : g x y with
    | false =>
      rw [gx, if_neg Bool.false_ne_true] at hk'
      rw [if_neg Bool.false_ne_true]
      exact q false p1 p2 F' H' hk' h'
    | true =>
      rw [gx, if_pos rfl] at hk'
      rw [if_pos rfl]
      refine hc p1 p2 C F' H' σs es σ _ ω _ hK hl h' hk' fun z p3 w F2 H2 hk2 h2 => ?_
      obtain ⟨w', fp, e1, _, r3⟩ := h2.look (i := 0) rfl
      simp at e1; subst e1
      cases r3
      exact hr' y z H2 R (q _ p1 p2 F2 H2 hk2 ((h2.pop).sub ((hs p1 p2 p3).pre es)))
theorem lx_chain (co : CoI X op g) (co' : CoI X op' g') (ha : LX X env a (it eI) e1 fa) (hb : ∀ p1, LX X (e1 p1) b (it eI) (e2 p1) (fb p1)) (hc : ∀ p1 p2, LX X (e2 p1 p2) c (it eI) (e3 p1 p2) (fc p1 p2)) (hs : ∀ p1 p2 p3, Sub (e3 p1 p2 p3) (e2 p1 p2))
    (hm : lastMarks [op, op'] [b, c] = false := by with_unfolding_all rfl) : LX X env (.Compare a [op, op'] [b, c] pos) (it eB) (fun p : P1 × P2 => e2 p.1 p.2) (fun k => fa fun x p1 => fb p1 fun y p2 => if g x y = true then fc p1 p2 fun z _ => k (g' y z) (p1, p2) else k false (p1, p2)) := by
  obtain ⟨r, ho, hr⟩ := co.ex
  obtain ⟨r', ho', hr'⟩ := co'.ex
  exact fun C F H σs es σ k ω Q hK hl h hk q => tE.of X (pe_chain ho ho' (peC X) (peC X) (peC X) hm) (chain_run ha hb hc hs hr hr' hK hl h hk fun b p1 p2 F' H' hk' h' => q b (p1, p2) _ F' H' hk' (h'.pushSh (.bl b)))
theorem lt_chain (co : CoI X op g) (co' : CoI X op' g') (ha : LX X env a (it eI) e1 fa) (hb : ∀ p1, LX X (e1 p1) b (it eI) (e2 p1) (fb p1)) (hc : ∀ p1 p2, LX X (e2 p1 p2) c (it eI) (e3 p1 p2) (fc p1 p2)) (hs : ∀ p1 p2 p3, Sub (e3 p1 p2 p3) (e2 p1 p2))
    (hm : lastMarks [op, op'] [b, c] = false := by with_unfolding_all rfl) : LT X env (.Compare a [op, op'] [b, c] pos) (fun p : P1 × P2 => e2 p.1 p.2) (fun k => fa fun x p1 => fb p1 fun y p2 => if g x y = true then fc p1 p2 fun z _ => k (g' y z) (p1, p2) else k false (p1, p2)) := by
  obtain ⟨r, ho, hr⟩ := co.ex
  obtain ⟨r', ho', hr'⟩ := co'.ex
  exact fun C F H σs es σ k ω Q hK hl h hk q => tT.of X (pt_chain ho ho' (peC X) (peC X) (peC X) hm) (chain_run ha hb hc hs hr hr' hK hl h hk fun b p1 p2 F' H' hk' h' => ⟨b, rfl, q b (p1, p2) F' H' hk' h'⟩)
end
/-! ### all, any of a list of bools -/
theorem RepAll.bools {K : Fg} {F : Hp} : ∀ {vs : List V} {ns : List Bool}, RepAll K F vs (ns.map eB.enc) → vs = ns.map V.bl
  | [], [], _ => rfl
  | [], _ :: _, h => by cases h
  | _ :: _, [], h => by cases h
  | v :: vs, n :: ns, h => by
    cases h with
    | cons h1 h2 =>
      have h1' : Rep K F v (.bool n) := h1
      cases h1'
      rw [RepAll.bools h2]; rfl
section
variable {g : τ → List Bool}
theorem lx_all (hc : X.calm = true) (hv : LVw S (it eB) g) (hm : X.mg "all" = none) (ha : LO X G env a S e' f) (hG : ∀ p, G (e' p)) (hg : Gl X "all" := by rfl) (he : starEach (a :: []) X.env = (false, eval a X.env) :: starEach [] X.env := by rfl) (hpl : (backTo pos (starEach [] X.env)).any (·.1) = false := by rfl) :
    LX X env (.Call (.Name "all" np) [a] [] pos) (it eB) e' (fun k => f fun x p => k ((g x).all id) p) :=
  lx_b1t (E := eB) (g := fun x : τ => (g x).all id) (cr_all hc) hm (by decide +kernel) ha hG (fun K F H fp v x Q hK s r q => by
    obtain ⟨p, vs, fps, rfl, h1, h2⟩ := hv.view s r
    have := h2.zero.2.bools
    subst this
    exact ⟨p, g x, rfl, by rw [← hK]; exact h1, q _ (.bl _)⟩) hg (by decide) (by decide) he hpl
theorem lx_any (hc : X.calm = true) (hv : LVw S (it eB) g) (hm : X.mg "any" = none) (ha : LO X G env a S e' f) (hG : ∀ p, G (e' p)) (hg : Gl X "any" := by rfl) (he : starEach (a :: []) X.env = (false, eval a X.env) :: starEach [] X.env := by rfl) (hpl : (backTo pos (starEach [] X.env)).any (·.1) = false := by rfl) :
    LX X env (.Call (.Name "any" np) [a] [] pos) (it eB) e' (fun k => f fun x p => k ((g x).any id) p) :=
  lx_b1t (E := eB) (g := fun x : τ => (g x).any id) (cr_any hc) hm (by decide +kernel) ha hG (fun K F H fp v x Q hK s r q => by
    obtain ⟨p, vs, fps, rfl, h1, h2⟩ := hv.view s r
    have := h2.zero.2.bools
    subst this
    exact ⟨p, g x, rfl, by rw [← hK]; exact h1, q _ (.bl _)⟩) hg (by decide) (by decide) he hpl
end
/-- isinstance(a, tuple) of data: a tuple is wanted -/
def isTupD : PyData → Bool
  | .tuple _ => true
  | _ => false
theorem lx_isD {f : (PyData → P → Option Ω) → Option Ω} (hm1 : X.mg "isinstance" = none) (hm2 : X.mg "tuple" = none) (ha : LX X env a (it eD) e' f) (hg1 : Gl X "isinstance" := by rfl) (hg2 : Gl X "tuple" := by rfl)
    (hs : starEach [a, .Name "tuple" tp] X.env = (false, eval a X.env) :: starEach [.Name "tuple" tp] X.env := by rfl) (hs2 : starEach [.Name "tuple" tp] X.env = (false, eval (.Name "tuple" tp) X.env) :: starEach [] X.env := by rfl) (hpl : (backTo pos (starEach [.Name "tuple" tp] X.env)).any (·.1) = false := by rfl) :
    LX X env (.Call (.Name "isinstance" np) [a, .Name "tuple" tp] [] pos) (it eB) e' (fun k => f fun x p => ck (isTupD x) (k true p)) :=
  fun C F H σs es σ k ω Q hK hl h hk q => tE.of X (pe_callB call_isi hg1 hm1 (by rfl) (pa_cons (peC X) (pa_cons (pe_bltn (v := .ty "tuple") (u := .type "tuple") hg2 hm2 (by rfl) rfl) pa_nil hs2) hs) (by decide) (by decide) hs hpl) (ha C F H σs es σ _ ω _ hK hl h hk fun x p v F' H' hk' h' => by
    obtain ⟨ht, hk2⟩ := ck_some hk'
    obtain ⟨v', fp, e1, _, r⟩ := h'.look (i := 0) rfl
    simp at e1; subst e1
    have r' : Rep C.K F' v x := r
    cases r' with
    | tup h1 h2 => exact ⟨_, _, _, _, true, rfl, .ty "tuple", sqT_ty (by rw [← hK]; exact same_sqT h'.sF h1), by unfold PySem.W.kitOne; rw [if_pos (by decide)], q true p (.bl true) F' H' hk2 (h'.pop.pushSh (.bl true))⟩
    | _ => cases ht)
/-! ### parts of tuples -/
structure CutP (E : Enc τ) (lo hi : Option Int) (E' : Enc α) (g : τ → α) : Prop where
  is : ∀ x, ∃ ds, E.enc x = .tuple ds ∧ E'.enc (g x) = .tuple (cutL ds lo hi)
theorem RepAll.cutD {K : Fg} {F : Hp} {vs : List V} {ds : List PyData} (lo hi : Option Int) (h : RepAll K F vs ds) : RepAll K F (cutV vs lo hi) (cutL ds lo hi) := by
  have hl := h.length
  unfold cutV cutL
  rw [hl]
  exact (h.drop _).take _
theorem cut_run {lo hi : Option Int} {E' : Enc α} {g : τ → α} (hp : CutP E lo hi E' g) {C : Ck} {F H : Hp} {σ : List (Option V)} {en : Env} {x : τ} {v : V} {Q : VK} (h : ER C F H σ en) (r : Rep C.K F v (E.enc x)) (q : ∀ u F' H', ER C F' H' (some u :: σ) (.st none α (it E') (g x) :: en) → Q u H') : rSlA C.K v lo hi H Q := by
  obtain ⟨ds, e1, e2⟩ := hp.is x
  rw [e1] at r
  obtain ⟨p, vs, rfl, h1, h2⟩ := r.tup_inv
  have hl := h2.length
  refine ⟨p, vs, rfl, same_sqT h.sF h1, fun hw => ?_, fun hw t nt => ?_⟩
  · refine q _ F H (h.pushSh ?_)
    have : cutL ds lo hi = ds := by
      unfold cutL
      rw [← hl, hw.1, hw.2, hl]; simp
    rw [e2, this]
    exact .tup h1 h2
  · refine q (.ref t) (upd F t (.tup (cutV vs lo hi))) _ ((h.newF nt).pushSh ?_)
    rw [e2]
    exact .tup (SqT.of upd_same) ((h2.cutD lo hi).mono (same_new (h.fnone nt)))
theorem lx_cutL {n : Int} {E' : Enc α} {g : τ → α} {f : (τ → P → Option Ω) → Option Ω} {j : Nat} {cp p2 : Pos} (hp : CutP E (some n) none E' g) (ha : LX X env a (it E) e' f) :
    LX X env (.Subscript a (.Slice (some (.Constant (.int n) j cp)) none none p2) pos) (it E') e' (fun k => f fun x p => k (g x) p) :=
  fun C F H σs es σ k ω Q hK hl h hk q => tE.of X (pe_slice sl_tupA (peC X) (po_some pe_int) po_none) (ha C F H σs es σ _ ω _ hK hl h hk fun x p v F' H' hk' h' => by
    obtain ⟨v', fp, e1, _, r⟩ := h'.look (i := 0) rfl
    simp at e1; subst e1
    exact ⟨n, rfl, by rw [← hK]; exact cut_run hp h'.pop r fun u F2 H2 h2 => q _ p u F2 H2 hk' h2⟩)
theorem lx_cutR {n : Int} {E' : Enc α} {g : τ → α} {f : (τ → P → Option Ω) → Option Ω} {j : Nat} {cp p2 : Pos} (hp : CutP E none (some n) E' g) (ha : LX X env a (it E) e' f) :
    LX X env (.Subscript a (.Slice none (some (.Constant (.int n) j cp)) none p2) pos) (it E') e' (fun k => f fun x p => k (g x) p) :=
  fun C F H σs es σ k ω Q hK hl h hk q => tE.of X (pe_slice sl_tupA (peC X) po_none (po_some pe_int)) (ha C F H σs es σ _ ω _ hK hl h hk fun x p v F' H' hk' h' => by
    obtain ⟨v', fp, e1, _, r⟩ := h'.look (i := 0) rfl
    simp at e1; subst e1
    exact ⟨n, rfl, by rw [← hK]; exact cut_run hp h'.pop r fun u F2 H2 h2 => q _ p u F2 H2 hk' h2⟩)
/-- tuples one behind the other -/
structure CatP (E1 : Enc τ1) (E2 : Enc τ2) (E3 : Enc τ3) (g : τ1 → τ2 → τ3) : Prop where
  is : ∀ x y, ∃ ds es, E1.enc x = .tuple ds ∧ E2.enc y = .tuple es ∧ E3.enc (g x y) = .tuple (ds ++ es) ∧ ds.length + es.length ≤ 1000
theorem lx_catT {fa : (τ1 → P1 → Option Ω) → Option Ω} {fb : P1 → (τ2 → P2 → Option Ω) → Option Ω} {g : τ1 → τ2 → τ3} (hp : CatP E1 E2 E3 g) (ha : LX X env a (it E1) e1 fa) (hb : ∀ p1, LX X (e1 p1) b (it E2) (e2 p1) (fb p1)) :
    LX X env (.BinOp a .Add b pos) (it E3) (fun p : P1 × P2 => e2 p.1 p.2) (fun k => fa fun x p1 => fb p1 fun y p2 => k (g x y) (p1, p2)) :=
  fun C F H σs es σ k ω Q hK hl h hk q => tE.of X (pe_op op_catA (peC X) (peC X)) (op2_run (lo_of ha) (fun p1 => lo_of (hb p1)) (fun _ _ => trivial) (fun _ _ => trivial) hK hl h hk
    fun x p1 y p2 v u F' H' fp fq hk' h' r1 r2 => by
      obtain ⟨_, r1⟩ := r1
      obtain ⟨_, r2⟩ := r2
      obtain ⟨ds, ts, e1, e2, e3, hz⟩ := hp.is x y
      rw [e1] at r1
      rw [e2] at r2
      obtain ⟨p, vs, rfl, h1, h2⟩ := r1.tup_inv
      obtain ⟨p', us, rfl, h3, h4⟩ := r2.tup_inv
      have l1 := h2.length
      have l2 := h4.length
      refine ⟨p, p', vs, us, rfl, rfl, by rw [← hK]; exact same_sqT h'.sF h1, by rw [← hK]; exact same_sqT h'.sF h3, Nat.le_of_lt (small1000 (by omega)), fun z => ?_, fun z y0 => ?_, fun z y0 t nt => ?_⟩
      · subst z
        have : ds = [] := List.eq_nil_of_length_eq_zero (by simpa using l1.symm)
        subst this
        refine q (g x y) (p1, p2) _ F' H' hk' (h'.pushSh ?_)
        rw [e3]; exact .tup h3 h4
      · subst y0
        have : ts = [] := List.eq_nil_of_length_eq_zero (by simpa using l2.symm)
        subst this
        refine q (g x y) (p1, p2) _ F' H' hk' (h'.pushSh ?_)
        rw [e3, List.append_nil]; exact .tup h1 h2
      · refine q (g x y) (p1, p2) (.ref t) (upd F' t (.tup (vs ++ us))) _ hk' ((h'.newF nt).pushSh ?_)
        rw [e3]
        exact .tup (SqT.of upd_same) ((h2.app h4).mono (same_new (h'.fnone nt))))
end
/-! ### a if c else b as a test -/
theorem pt_ifT {X : Cx} {c a b : Expr} {pos : Pos} {tc ta tb : TT} (hc : PT X c tc) (ha : PT X a ta) (hb : PT X b tb) : PT X (.IfExp c a b pos) (fun σ H Q => tc σ H fun k H1 => if k = true then ta σ H1 Q else tb σ H1 Q) := by
  refine ⟨fun pins s σ H Q I h => ?_⟩
  rw [PySem.arm_isTrue_IfExp]
  refine wpAny_bind (thn (hc.run pins s σ H _ I h) fun k s1 ⟨H1, I1, q1⟩ => ?_)
  cases k with
  | true => rw [if_pos rfl] at q1 ⊢; exact ha.run pins s1 σ H1 Q I1 q1
  | false => rw [if_neg Bool.false_ne_true] at q1 ⊢; exact hb.run pins s1 σ H1 Q I1 q1
theorem lt_if {X : Cx} {Ω : Type} {env : Env} {c a b : Expr} {pos : Pos} {P1 P2 P3 : Type} {e1 : P1 → Env} {e2 : P1 → P2 → Env} {e3 : P1 → P3 → Env} {fc : (Bool → P1 → Option Ω) → Option Ω} {fa : P1 → (Bool → P2 → Option Ω) → Option Ω} {fb : P1 → (Bool → P3 → Option Ω) → Option Ω} (hc : LT X env c e1 fc) (ha : ∀ p1, LT X (e1 p1) a (e2 p1) (fa p1)) (hb : ∀ p1, LT X (e1 p1) b (e3 p1) (fb p1))
    (hs : ∀ p1 p2, Sub (e2 p1 p2) (e1 p1)) (hs3 : ∀ p1 p3, Sub (e3 p1 p3) (e1 p1)) :
    LT X env (.IfExp c a b pos) e1 (fun k => fc fun x p1 => if x = true then fa p1 fun y _ => k y p1 else fb p1 fun y _ => k y p1) :=
  fun C F H σs es σ k ω Q hK hl hr hk q => tT.of X (pt_ifT (ptC X) (ptC X) (ptC X)) (hc C F H σs es σ _ ω _ hK hl hr hk fun x p1 F' H' hk' h' => by
    cases x with
    | true => rw [if_pos rfl] at hk' ⊢; exact ha p1 C F' H' σs es σ _ ω Q hK hl h' hk' fun y p2 F2 H2 hk2 h2 => q y p1 F2 H2 hk2 (h2.sub ((hs p1 p2).pre es))
    | false => rw [if_neg Bool.false_ne_true] at hk' ⊢; exact hb p1 C F' H' σs es σ _ ω Q hK hl h' hk' fun y p2 F2 H2 hk2 h2 => q y p1 F2 H2 hk2 (h2.sub ((hs3 p1 p2).pre es)))
/-! ### x, y, z = a, b, c -/
section
variable {X : Cx} {R I Ω J : Type} {SR : Stor R} {envR : I → Env} {kr : R → I → Option Ω} {bk ct : Lp Ω} {env : Env} {rest : List Stmt} {envJ : J → Env} {nm nm2 nm3 : Str} {pos : Pos} {a b c : Expr} {P : Type} {e' : P → Env}
theorem lb_par3 {τ1 τ2 τ3 : Type} {S1 : Stor τ1} {S2 : Stor τ2} {S3 : Stor τ3} {f : ((τ1 × τ2 × τ3 × Unit) → P → Option Ω) → Option Ω} {fr : τ1 → τ2 → τ3 → P → (J → Option Ω) → Option Ω} {px py pz pt : Pos} {kt k2 : Nat} {pt2 : Pos} (i j l : Nat) (hN : X.N.Nodup) (hc : X.calm = true) (ha : LA X env [a, b, c] (fun p : τ1 × τ2 × τ3 × Unit => [.st none τ1 S1 p.1, .st none τ2 S2 p.2.1, .st none τ3 S3 p.2.2.1]) e' f)
    (hr : ∀ x y z p, LB X SR envR kr bk ct ((((e' p).set i (.st none τ1 S1 x)).set j (.st none τ2 S2 y)).set l (.st none τ3 S3 z)) rest envJ (fr x y z p))
    (hi : X.N[i]? = some nm := by rfl) (hj : X.N[j]? = some nm2 := by rfl) (hl3 : X.N[l]? = some nm3 := by rfl) (hij : i ≠ j := by decide) (hil : i ≠ l := by decide) (hjl : j ≠ l := by decide) (hx : X.env.scope.names.lookup nm = some .local := by rfl) (hy : X.env.scope.names.lookup nm2 = some .local := by rfl) (hz : X.env.scope.names.lookup nm3 = some .local := by rfl)
    (hli : ∀ p, i < (e' p).length := by exact (fun _ => Nat.lt_of_sub_eq_succ rfl)) (hlj : ∀ p, j < (e' p).length := by exact (fun _ => Nat.lt_of_sub_eq_succ rfl)) (hll : ∀ p, l < (e' p).length := by exact (fun _ => Nat.lt_of_sub_eq_succ rfl))
    (hw : swappedStores [.Tuple [.Name nm px, .Name nm2 py, .Name nm3 pz] kt pt] (.Tuple [a, b, c] k2 pt2) X.env = pure (some [nm, nm2, nm3]) := by rfl)
    (hs : swapsWithSole [.Tuple [.Name nm px, .Name nm2 py, .Name nm3 pz] kt pt] (.Tuple [a, b, c] k2 pt2) pos.line X.env = pure false := by rfl) :
    LB X SR envR kr bk ct env (.Assign [.Tuple [.Name nm px, .Name nm2 py, .Name nm3 pz] kt pt] (.Tuple [a, b, c] k2 pt2) pos :: rest) envJ (fun kn => f fun r p => fr r.1 r.2.1 r.2.2.1 p kn) :=
  fun C F H σs es σ kn ω D hK hl h hk qn qb qc qr => tSs.of X (pss_cons (ps_par3 hc hN hi hj hl3 hij hil hjl hx hy hz (paC X) hw hs) (pssC X)) (ha C F H σs es σ _ ω _ hK hl h hk fun r p vs F' H' hk' hv h' => by
    match vs, hv with
    | [v, u, t], _ =>
      refine ⟨v, u, t, rfl, ?_⟩
      have h2 := ER.asg (σs := some u :: some t :: σs) (es := .st none τ2 S2 r.2.1 :: .st none τ3 S3 r.2.2.1 :: es) (σ := σ) (env := e' p) h' (by simp [hl]) (hli p)
      have h3 := ER.asg (σs := some t :: σs) (es := .st none τ3 S3 r.2.2.1 :: es) (σ := σ.set i (some v)) h2 (by simp [hl]) (by simpa using hlj p)
      have h4 := ER.asg (σs := σs) (es := es) (σ := (σ.set i (some v)).set j (some u)) h3 hl (by simpa using hll p)
      exact hr r.1 r.2.1 r.2.2.1 p C F' H' σs es _ kn ω D hK hl h4 hk' qn qb qc qr)
end
/-! ### what can be shown -/
structure Sh (k m : Nat) (d : PyData) : Prop where
  lay : d.canLay0 = true
  sho : d.showable = true
  lea : d.leavesShort 13 = true
  blk : d.bulk ≤ m
  dep : d.depth ≤ k
theorem Sh.mono {k m k' m' : Nat} {d : PyData} (h : Sh k m d) (hk : k ≤ k') (hm : m ≤ m') : Sh k' m' d := ⟨h.lay, h.sho, h.lea, Nat.le_trans h.blk hm, Nat.le_trans h.dep hk⟩
theorem Sh.ok {k m : Nat} {d : PyData} (h : Sh k m d) (hk : k ≤ 60) (hm : m ≤ 1000000) : showOk d = true := by
  have d3 : d.shown.length ≤ sizeLine := PyData.shown_fits_bulk (B := 13) (by decide) (by decide) h.lea (by
    have := h.blk
    have : (1000000 : Nat) ≤ 2 ^ 20 := by decide
    omega)
  unfold showOk
  rw [h.lay, h.sho, decide_eq_true (Nat.le_trans h.dep hk), decide_eq_true d3]; rfl
theorem Sh.repr {k m : Nat} {d : PyData} (h : Sh k m d) (hk : k ≤ 60 := by decide) (hm : m ≤ 1000000 := by decide) : reprO d = some d.shown := if_pos (h.ok hk hm)
theorem shI {i : Int} (h : i.natAbs < 10 ^ 12) : Sh 0 0 (.int i) := ⟨rfl, by
  simp only [PyData.showable, decide_eq_true_eq]
  by_cases z : i.natAbs = 0
  · rw [z]; decide
  · exact (Nat.log2_lt z).2 (Nat.lt_of_lt_of_le h (by decide +kernel)), by simp only [PyData.leavesShort, decide_eq_true_eq]; exact PyData.shown_int_le h, Nat.le_refl _, Nat.le_refl _⟩
theorem shN : Sh 0 0 .none := ⟨rfl, rfl, rfl, Nat.le_refl _, Nat.le_refl _⟩
theorem shB {b : Bool} : Sh 0 0 (.bool b) := ⟨rfl, rfl, rfl, Nat.le_refl _, Nat.le_refl _⟩
theorem shS {s : Str} (h1 : PyData.strOk s = true) (h2 : (s.cps.toList.all fun c => decide (c < 16 ^ 8)) = true) (h3 : s.cps.size ≤ m) : Sh 0 m (.str s) := ⟨by rw [PyData.canLay0]; exact h1, rfl, by rw [PyData.leavesShort]; exact h2, by rw [PyData.bulk]; exact h3, Nat.le_refl _⟩
theorem sh_all {k m : Nat} : ∀ (ds : List PyData), (∀ d ∈ ds, Sh k m d) → PyData.canLayAll0 ds = true ∧ PyData.showableAll ds = true ∧ PyData.leavesShortAll 13 ds = true ∧ PyData.bulkAll ds ≤ ds.length * (m + 1) ∧ PyData.depthAll ds ≤ k
  | [], _ => ⟨rfl, rfl, rfl, by simp [PyData.bulkAll], by simp [PyData.depthAll]⟩
  | d :: ds, h => by
    obtain ⟨a, b, c, e, f⟩ := sh_all ds fun x hx => h x (List.mem_cons_of_mem _ hx)
    obtain ⟨a', b', c', e', f'⟩ := h d (List.mem_cons_self ..)
    refine ⟨by rw [PyData.canLayAll0, a', a]; rfl, by rw [PyData.showableAll, b', b]; rfl, by rw [PyData.leavesShortAll, c', c]; rfl, ?_, ?_⟩
    · rw [PyData.bulkAll, List.length_cons, Nat.succ_mul]; omega
    · rw [PyData.depthAll]; omega
theorem shL {k m n : Nat} {ds : List PyData} (h : ∀ d ∈ ds, Sh k m d) (hn : ds.length ≤ n) : Sh (k + 1) (n * (m + 1)) (.list ds) := by
  obtain ⟨a, b, c, e, f⟩ := sh_all ds h
  exact ⟨by rw [PyData.canLay0]; exact a, by rw [PyData.showable]; exact b, by rw [PyData.leavesShort]; exact c, by rw [PyData.bulk]; exact Nat.le_trans e (Nat.mul_le_mul_right _ hn), by rw [PyData.depth]; omega⟩
theorem shV {k m n : Nat} {ds : List PyData} (h : ∀ d ∈ ds, Sh k m d) (hn : ds.length ≤ n) : Sh (k + 1) (n * (m + 1)) (.tuple ds) := by
  obtain ⟨a, b, c, e, f⟩ := sh_all ds h
  exact ⟨by rw [PyData.canLay0]; exact a, by rw [PyData.showable]; exact b, by rw [PyData.leavesShort]; exact c, by rw [PyData.bulk]; exact Nat.le_trans e (Nat.mul_le_mul_right _ hn), by rw [PyData.depth]; omega⟩
/-- tuples by their parts -/
structure ShP (k m : Nat) (ds : List PyData) : Prop where
  lay : PyData.canLayAll0 ds = true
  sho : PyData.showableAll ds = true
  lea : PyData.leavesShortAll 13 ds = true
  blk : PyData.bulkAll ds ≤ m
  dep : PyData.depthAll ds ≤ k
theorem shp0 : ShP 0 0 [] := ⟨rfl, rfl, rfl, by simp [PyData.bulkAll], by simp [PyData.depthAll]⟩
theorem shpC {k m k' m' : Nat} {d : PyData} {ds : List PyData} (h : Sh k m d) (r : ShP k' m' ds) : ShP (max k k') (m + 1 + m') (d :: ds) := ⟨by rw [PyData.canLayAll0, h.lay, r.lay]; rfl, by rw [PyData.showableAll, h.sho, r.sho]; rfl, by rw [PyData.leavesShortAll, h.lea, r.lea]; rfl, by
  have := h.blk; have := r.blk
  rw [PyData.bulkAll]; omega, by
  have := h.dep; have := r.dep
  rw [PyData.depthAll]; omega⟩
theorem shT {k m : Nat} {ds : List PyData} (r : ShP k m ds) : Sh (k + 1) m (.tuple ds) := ⟨by rw [PyData.canLay0]; exact r.lay, by rw [PyData.showable]; exact r.sho, by rw [PyData.leavesShort]; exact r.lea, by rw [PyData.bulk]; exact r.blk, by rw [PyData.depth]; have := r.dep; omega⟩
theorem shTL {k m : Nat} {ds : List PyData} (r : ShP k m ds) : Sh (k + 1) m (.list ds) := ⟨by rw [PyData.canLay0]; exact r.lay, by rw [PyData.showable]; exact r.sho, by rw [PyData.leavesShort]; exact r.lea, by rw [PyData.bulk]; exact r.blk, by rw [PyData.depth]; have := r.dep; omega⟩
theorem Sh.shaped {k m : Nat} {d : PyData} (h : Sh k m d) (hk : k ≤ 64 := by decide) : SeqAt.shaped d = true := shaped_of h.lay (Nat.le_trans h.dep hk)
theorem Sh.refl {k m : Nat} {d : PyData} (h : Sh k m d) : PyData.eqv d d = true := PySem.SeqAt.eqv_refl d h.lay
end Z

set_option Elab.async false
set_option linter.all false
set_option maxRecDepth 100000
namespace Z
open PySem PySem.Spec PyProof.Rows L2
/-! ### plain lemmas for many laws -/
theorem asc_iff : ∀ (es : List Int), es.Pairwise (· < ·) ↔ ∀ i (h : i + 1 < es.length), es[i] < es[i+1]
  | [] => by simp
  | [a] => by simp
  | a :: b :: es => by
    rw [List.pairwise_cons, asc_iff (b :: es)]
    constructor
    · rintro ⟨h1, h2⟩ i hi
      cases i with
      | zero => exact h1 b (List.mem_cons_self ..)
      | succ i => exact h2 i (by simpa using hi)
    · intro h
      have h2 : ∀ i (hi : i + 1 < (b :: es).length), (b :: es)[i] < (b :: es)[i+1] := fun i hi => h (i + 1) (by simpa using hi)
      refine ⟨fun c hc => ?_, h2⟩
      have hab : a < b := h 0 (by simp)
      rcases List.mem_cons.1 hc with rfl | hc
      · exact hab
      · have := (List.pairwise_cons.1 ((asc_iff (b :: es)).2 h2)).1 c hc
        omega
section
variable {α β S Ω : Type}
theorem rangeL_cons' {lo hi : Int} (h : lo < hi) : rangeL lo hi = lo :: rangeL (lo + 1) hi := by
  unfold rangeL
  have e : (hi - lo).toNat = (hi - (lo + 1)).toNat + 1 := by omega
  rw [e, List.range_succ_eq_map, List.map_cons, List.map_map]
  congr 1
  · simp
  · apply List.map_congr_left; intro i _; simp only [Function.comp]; omega
theorem rangeL_nil {lo hi : Int} (h : hi ≤ lo) : rangeL lo hi = [] := by
  unfold rangeL
  rw [show (hi - lo).toNat = 0 by omega]; rfl
theorem mem_rng {lo hi x : Int} : x ∈ rangeL lo hi ↔ lo ≤ x ∧ x < hi := by
  unfold rangeL
  simp only [List.mem_map, List.mem_range]
  constructor
  · rintro ⟨i, hi, rfl⟩; omega
  · rintro ⟨a, b⟩; exact ⟨(x - lo).toNat, by omega, by omega⟩
theorem rng_len {lo hi : Int} : (rangeL lo hi).length = (hi - lo).toNat := by simp [rangeL]
theorem rgOk_s {lo hi : Int} (h1 : -1000000000 ≤ lo) (h2 : lo ≤ 1000000000) (h3 : -1000000000 ≤ hi) (h4 : hi ≤ 1000000000) : rgOk lo hi = true := decide_eq_true ⟨by omega, by omega, by omega, by omega⟩
theorem atI_some {xs : List α} {i : Int} (h0 : 0 ≤ i) (h1 : i < xs.length) : atI xs i = some (xs[i.toNat]'(by omega)) := by
  obtain ⟨k, hk, rfl, e⟩ := atI_pos (xs := xs) h0 h1
  rw [e]; simp
theorem atI_neg {xs : List α} (h : xs ≠ []) : atI xs (-(1 : Int)) = some (xs.getLast h) := by
  have hl : 0 < xs.length := List.length_pos_iff.2 h
  unfold atI ixN
  rw [if_neg (by decide), if_pos (by omega)]
  show xs[_]? = _
  rw [List.getLast_eq_getElem, show (-(1 : Int) + (xs.length : Int)).toNat = xs.length - 1 by omega, List.getElem?_eq_getElem]
theorem forO_congr {b b' : α → S → (S → Option Ω) → Option Ω} {k : S → Option Ω} : ∀ (xs : List α) (s : S), (∀ x ∈ xs, ∀ s kc, b x s kc = b' x s kc) → forO xs s b k = forO xs s b' k
  | [], _, _ => rfl
  | x :: xs, s, h => by
    show b x s _ = b' x s _
    rw [h x (List.mem_cons_self ..)]
    congr 1
    funext s'
    exact forO_congr xs s' fun y m => h y (List.mem_cons_of_mem _ m)
theorem compO_congr {b b' : α → S → (Option β → S → Option Ω) → Option Ω} {k : List β → S → Option Ω} : ∀ (xs : List α) (s : S) (acc : List β), (∀ x ∈ xs, ∀ s kc, b x s kc = b' x s kc) → compO xs s b acc k = compO xs s b' acc k
  | [], _, _, _ => rfl
  | x :: xs, s, acc, h => by
    show b x s _ = b' x s _
    rw [h x (List.mem_cons_self ..)]
    congr 1
    funext y s'
    cases y with
    | none => exact compO_congr xs s' acc fun y m => h y (List.mem_cons_of_mem _ m)
    | some y => show ck _ _ = ck _ _; rw [compO_congr xs s' _ fun y m => h y (List.mem_cons_of_mem _ m)]
/-- a walk over the places of a list is a walk over its members -/
theorem forO_ix {xs : List α} {b : Int → S → (S → Option Ω) → Option Ω} {b' : α → S → (S → Option Ω) → Option Ω} {k : S → Option Ω} {s : S} (h : ∀ i (hi : i < xs.length) s kc, b (i : Int) s kc = b' xs[i] s kc) : forO (rangeL 0 (xs.length : Int)) s b k = forO xs s b' k := by
  suffices ∀ (ys : List α) (n : Nat), (∀ i (hi : i < ys.length) s kc, b ((n + i : Nat) : Int) s kc = b' ys[i] s kc) → ∀ s, forO (rangeL (n : Int) ((n + ys.length : Nat) : Int)) s b k = forO ys s b' k by
    have := this xs 0 (fun i hi s kc => by rw [Nat.zero_add]; exact h i hi s kc) s
    simpa using this
  intro ys
  induction ys with
  | nil => intro n _ s; rw [rangeL_nil (by simp)]; rfl
  | cons y ys ih =>
    intro n h s
    rw [rangeL_cons' (by simp only [List.length_cons]; omega)]
    show b (n : Int) s _ = b' y s _
    rw [show (n : Int) = ((n + 0 : Nat) : Int) by omega, h 0 (by simp) s]
    congr 1
    funext s'
    have := ih (n + 1) (fun i hi s kc => by
      have := h (i + 1) (by simpa using hi) s kc
      rw [show n + 1 + i = n + (i + 1) by omega]; simpa using this) s'
    rw [← this, show ((n + 0 : Nat) : Int) + 1 = ((n + 1 : Nat) : Int) by omega, show ((n + (y :: ys).length : Nat) : Int) = ((n + 1 + ys.length : Nat) : Int) by simp only [List.length_cons]; omega]
theorem compO_ix {xs : List α} {b : Int → S → (Option β → S → Option Ω) → Option Ω} {b' : α → S → (Option β → S → Option Ω) → Option Ω} {k : List β → S → Option Ω} {s : S} {acc : List β} (h : ∀ i (hi : i < xs.length) s kc, b (i : Int) s kc = b' xs[i] s kc) : compO (rangeL 0 (xs.length : Int)) s b acc k = compO xs s b' acc k := by
  suffices ∀ (ys : List α) (n : Nat), (∀ i (hi : i < ys.length) s kc, b ((n + i : Nat) : Int) s kc = b' ys[i] s kc) → ∀ s acc, compO (rangeL (n : Int) ((n + ys.length : Nat) : Int)) s b acc k = compO ys s b' acc k by
    have := this xs 0 (fun i hi s kc => by rw [Nat.zero_add]; exact h i hi s kc) s acc
    simpa using this
  intro ys
  induction ys with
  | nil => intro n _ s acc; rw [rangeL_nil (by simp)]; rfl
  | cons y ys ih =>
    intro n h s acc
    rw [rangeL_cons' (by simp only [List.length_cons]; omega)]
    show b (n : Int) s _ = b' y s _
    rw [show (n : Int) = ((n + 0 : Nat) : Int) by omega, h 0 (by simp) s]
    congr 1
    funext z s'
    have e := fun acc => ih (n + 1) (fun i hi s kc => by
      have := h (i + 1) (by simpa using hi) s kc
      rw [show n + 1 + i = n + (i + 1) by omega]; simpa using this) s' acc
    have er : rangeL ((n + 0 : Nat) + 1 : Int) ((n + (y :: ys).length : Nat) : Int) = rangeL ((n + 1 : Nat) : Int) ((n + 1 + ys.length : Nat) : Int) := by
      rw [show ((n + 0 : Nat) : Int) + 1 = ((n + 1 : Nat) : Int) by omega, show ((n + (y :: ys).length : Nat) : Int) = ((n + 1 + ys.length : Nat) : Int) by simp only [List.length_cons]; omega]
    rw [er]
    cases z with
    | none => exact e acc
    | some z => show ck _ _ = ck _ _; rw [e]
theorem enumL_cons (x : α) (xs : List α) : enumL (x :: xs) = (0, x) :: (enumL xs).map fun p => (p.1 + 1, p.2) := by
  unfold enumL
  rw [List.zipIdx_cons]
  simp [List.zipIdx_succ, List.map_map, Function.comp]
theorem enumL_len (xs : List α) : (enumL xs).length = xs.length := by simp [enumL]
theorem mem_enumL {xs : List α} {p : Int × α} : p ∈ enumL xs ↔ ∃ i : Nat, p.1 = i ∧ xs[i]? = some p.2 := by
  unfold enumL
  simp only [List.mem_map, List.mem_zipIdx_iff_getElem?]
  constructor
  · rintro ⟨q, h, rfl⟩; exact ⟨q.2, rfl, h⟩
  · rintro ⟨i, h1, h2⟩; exact ⟨(p.2, i), h2, by rw [← h1]⟩
/-- a list of `rising` tests -/
theorem rise_ok {es : List Int} (hl : es.length ≤ 1000000) : ∃ bs : List Bool, bs.all id = decide (es.Pairwise (· < ·)) ∧ ∀ k : List Bool → Unit → Option Ω,
    compO (rangeL 0 ((es.length : Int) - 1)) () (fun x (_ : Unit) kc => (atI es x).bind fun y => (atI es (x + 1)).bind fun z => kc (some (decide (y < z))) ()) [] k = k bs () := by
  refine ⟨(rangeL 0 ((es.length : Int) - 1)).map fun i => decide (es.getD i.toNat 0 < es.getD (i.toNat + 1) 0), ?_, fun k => ?_⟩
  · rw [Bool.eq_iff_iff, List.all_eq_true, decide_eq_true_eq, asc_iff]
    simp only [List.mem_map, mem_rng, id]
    constructor
    · intro h i hi
      have := h _ ⟨(i : Int), ⟨by omega, by omega⟩, rfl⟩
      rw [decide_eq_true_eq] at this
      simpa [List.getD_eq_getElem?_getD, List.getElem?_eq_getElem hi, List.getElem?_eq_getElem (show i < es.length by omega)] using this
    · rintro h _ ⟨i, ⟨h0, h1⟩, rfl⟩
      have := h i.toNat (by omega)
      rw [decide_eq_true_eq]
      simpa [List.getD_eq_getElem?_getD, List.getElem?_eq_getElem (show i.toNat + 1 < es.length by omega), List.getElem?_eq_getElem (show i.toNat < es.length by omega)] using this
  · refine (compO_map (fun i : Int => decide (es.getD i.toNat 0 < es.getD (i.toNat + 1) 0)) () _ [] (by rw [rng_len]; show _ ≤ 16777216; simp only [List.length_nil]; omega) fun x mx kc => ?_).trans (by rw [List.nil_append])
    obtain ⟨h0, h1⟩ := mem_rng.1 mx
    rw [atI_some h0 (by omega), Option.bind_some, atI_some (by omega) (by omega), Option.bind_some]
    simp only [List.getD_eq_getElem?_getD, List.getElem?_eq_getElem (show x.toNat < es.length by omega), List.getElem?_eq_getElem (show x.toNat + 1 < es.length by omega), Option.getD_some, show (x + 1).toNat = x.toNat + 1 by omega]
theorem usort_eq_iff {es : List Int} : es = usort es ↔ es.Pairwise (· < ·) := ⟨fun e => by rw [e]; exact usort_pw es, fun p => usort_is p fun _ => Iff.rfl⟩
theorem usort_len (xs : List Int) : (usort xs).length ≤ xs.length := by
  induction xs with
  | nil => simp [usort]
  | cons x xs ih =>
    simp only [usort]
    split
    · simp; omega
    · have : ((usort xs).filter (· < x)).length + ((usort xs).filter (x < ·)).length ≤ (usort xs).length := by
        generalize usort xs = ys
        clear ih
        induction ys with
        | nil => simp
        | cons y ys ih =>
          simp only [List.filter_cons, List.length_cons]
          by_cases c : y < x
          · have d : ¬ x < y := by omega
            simp [c, d]; omega
          · by_cases d : x < y
            · simp [c, d]; omega
            · simp [c, d]; omega
      simp; omega
/-! ### all sets, one after the other -/
def subs (xs : List α) : List (List α) := xs.foldl (fun s k => s ++ s.map (· ++ [k])) [[]]
theorem subs_mem' : ∀ (xs : List α) (acc : List (List α)) (row : List α), row ∈ xs.foldl (fun s k => s ++ s.map (· ++ [k])) acc ↔ ∃ a ∈ acc, ∃ s, List.Sublist s xs ∧ row = a ++ s
  | [], acc, row => by
    constructor
    · intro h; exact ⟨row, h, [], List.Sublist.refl _, by simp⟩
    · rintro ⟨a, ha, s, hs, rfl⟩
      rw [List.sublist_nil.1 hs, List.append_nil]; exact ha
  | x :: xs, acc, row => by
    rw [List.foldl_cons, subs_mem' xs]
    constructor
    · rintro ⟨a, ha, s, hs, rfl⟩
      rcases List.mem_append.1 ha with ha | ha
      · exact ⟨a, ha, s, hs.cons x, rfl⟩
      · obtain ⟨b, hb, rfl⟩ := List.mem_map.1 ha
        exact ⟨b, hb, x :: s, hs.cons_cons x, by simp⟩
    · rintro ⟨a, ha, s, hs, rfl⟩
      cases hs with
      | cons _ h => exact ⟨a, List.mem_append_left _ ha, _, h, rfl⟩
      | cons_cons _ h => exact ⟨a ++ [x], List.mem_append_right _ (List.mem_map.2 ⟨a, ha, rfl⟩), _, h, by simp⟩
theorem mem_subs {xs row : List α} : row ∈ subs xs ↔ List.Sublist row xs := by
  unfold subs
  rw [subs_mem']
  simp
theorem subs_len' : ∀ (xs : List α) (acc : List (List α)), (xs.foldl (fun s k => s ++ s.map (· ++ [k])) acc).length = acc.length * 2 ^ xs.length
  | [], acc => by simp
  | x :: xs, acc => by
    rw [List.foldl_cons, subs_len' xs, List.length_append, List.length_map, List.length_cons, Nat.pow_succ, ← Nat.two_mul, Nat.mul_comm 2, Nat.mul_assoc, Nat.mul_comm 2]
theorem subs_len (xs : List α) : (subs xs).length = 2 ^ xs.length := by
  unfold subs; rw [subs_len']; simp
/-- the walk that builds them -/
theorem sets_walk {k : List (List α) → Option Ω} : ∀ (xs : List α) (acc : List (List α)), (∀ a ∈ acc, a.length + xs.length ≤ 1000) → acc.length * 2 ^ xs.length ≤ 1000000 →
    forO xs acc (fun x t kc => compO t () (fun row (_ : Unit) kc2 => ck (decide (row.length + [x].length ≤ SZ)) (kc2 (some (row ++ [x])) ())) [] fun ys (_ : Unit) => ck (decide (t.length + ys.length ≤ SZ)) (kc (t ++ ys))) k = k (xs.foldl (fun s k => s ++ s.map (· ++ [k])) acc)
  | [], acc, _, _ => rfl
  | x :: xs, acc, h1, h2 => by
    rw [List.length_cons, Nat.pow_succ] at h2
    have hp : 1 ≤ 2 ^ xs.length := Nat.one_le_two_pow
    have hacc : acc.length * 2 ≤ 1000000 := by
      have : acc.length * 2 * 1 ≤ acc.length * 2 * 2 ^ xs.length := Nat.mul_le_mul_left _ hp
      rw [Nat.mul_comm (2 ^ xs.length), ← Nat.mul_assoc] at h2
      omega
    show compO acc () _ [] _ = _
    have hS : (1000000 : Nat) ≤ SZ := by decide
    rw [compO_map (fun row : List α => row ++ [x]) () acc [] (by simp; omega) fun row m kc => by
      have := h1 row m
      simp only [List.length_cons, List.length_nil] at this ⊢
      rw [decide_eq_true (by omega), ck_true], List.nil_append, List.length_map, decide_eq_true (by omega), ck_true]
    refine sets_walk xs _ (fun a ha => ?_) ?_
    · rcases List.mem_append.1 ha with ha | ha
      · have := h1 a ha; simp at this; omega
      · obtain ⟨b, hb, rfl⟩ := List.mem_map.1 ha
        have := h1 b hb; simp at this ⊢; omega
    · rw [List.length_append, List.length_map, ← Nat.two_mul, Nat.mul_comm 2, Nat.mul_assoc, Nat.mul_comm 2]; exact h2
end
/-! ### least, greatest -/
theorem minI_of {l : List Int} {m : Int} (hm : m ∈ l) (h : ∀ y ∈ l, m ≤ y) : minI l = some m := by
  cases l with
  | nil => cases hm
  | cons x xs =>
    show some (xs.foldl min x) = _
    congr 1
    exact (minI_is rfl hm h).symm
theorem maxI_of {l : List Int} {m : Int} (hm : m ∈ l) (h : ∀ y ∈ l, y ≤ m) : maxI l = some m := by
  cases l with
  | nil => cases hm
  | cons x xs =>
    show some (xs.foldl max x) = _
    congr 1
    exact (maxI_is rfl hm h).symm
theorem minI_some {l : List Int} (h : l ≠ []) : ∃ m, minI l = some m ∧ m ∈ l ∧ ∀ y ∈ l, m ≤ y := by
  cases l with
  | nil => exact absurd rfl h
  | cons x xs =>
    refine ⟨xs.foldl min x, rfl, ?_, fun y m => ?_⟩
    · rcases foldl_min_mem xs x with e | e
      · rw [e]; exact List.mem_cons_self ..
      · exact List.mem_cons_of_mem _ e
    · rcases List.mem_cons.1 m with rfl | m
      · exact (foldl_min_le xs y).1
      · exact (foldl_min_le xs x).2 y m
theorem maxI_some {l : List Int} (h : l ≠ []) : ∃ m, maxI l = some m ∧ m ∈ l ∧ ∀ y ∈ l, y ≤ m := by
  cases l with
  | nil => exact absurd rfl h
  | cons x xs =>
    refine ⟨xs.foldl max x, rfl, ?_, fun y m => ?_⟩
    · rcases foldl_max_mem xs x with e | e
      · rw [e]; exact List.mem_cons_self ..
      · exact List.mem_cons_of_mem _ e
    · rcases List.mem_cons.1 m with rfl | m
      · exact (foldl_max_le xs y).1
      · exact (foldl_max_le xs x).2 y m
theorem lpp_tot {x y : Int × Int} (h : lpp x y = false) (g : lpp y x = false) : x = y := by
  rw [lpp_no] at h g
  exact Prod.ext (by omega) (by omega)
theorem minB_some {l : List (Int × Int)} (h : l ≠ []) : ∃ m, minB lpp l = some m ∧ m ∈ l ∧ ∀ y ∈ l, lpp y m = false := by
  suffices ∀ (xs : List (Int × Int)) (x : Int × Int), ∃ m, xs.foldl (fun a y => if lpp y a = true then y else a) x = m ∧ m ∈ x :: xs ∧ ∀ y ∈ x :: xs, lpp y m = false by
    cases l with
    | nil => exact absurd rfl h
    | cons x xs =>
      obtain ⟨m, e, a, b⟩ := this xs x
      exact ⟨m, congrArg some e, a, b⟩
  intro xs
  induction xs with
  | nil => intro x; exact ⟨x, rfl, List.mem_cons_self .., fun y m => by simp at m; subst m; rw [lpp_no]; omega⟩
  | cons z xs ih =>
    intro x
    rw [List.foldl_cons]
    obtain ⟨m, e, a, b⟩ := ih (if lpp z x = true then z else x)
    refine ⟨m, e, ?_, fun y hy => ?_⟩
    · rcases List.mem_cons.1 a with rfl | a
      · split
        · simp
        · simp
      · simp [a]
    · have bx := b _ (List.mem_cons_self ..)
      rcases List.mem_cons.1 hy with rfl | hy
      · by_cases c : lpp z y = true
        · rw [if_pos c] at bx
          rw [lpp_no] at bx ⊢
          rw [lpp_iff] at c
          omega
        · rw [if_neg c] at bx; exact bx
      · rcases List.mem_cons.1 hy with rfl | hy
        · by_cases c : lpp y x = true
          · rw [if_pos c] at bx; exact bx
          · rw [if_neg c] at bx
            have c' : lpp y x = false := by simpa using c
            rw [lpp_no] at bx c' ⊢
            omega
        · exact b y (List.mem_cons_of_mem _ hy)
/-! ### slices -/
theorem cutL_nat {α : Type} {xs : List α} {i j : Nat} (hj : j ≤ xs.length) : cutL xs (some (i : Int)) (some (j : Int)) = (xs.drop i).take (j - i) := by
  unfold cutL
  rw [HT.sIx_nat, HT.sIx_nat, Nat.min_eq_left hj]
  by_cases h : i ≤ xs.length
  · rw [Nat.min_eq_left h]
  · rw [Nat.min_eq_right (by omega), List.drop_of_length_le (Nat.le_refl _), List.drop_of_length_le (by omega)]
    simp
theorem cutL_from {α : Type} {xs : List α} {i : Nat} : cutL xs (some (i : Int)) none = xs.drop i := by
  unfold cutL
  rw [HT.sIx_nat, HT.sIx_none]
  by_cases h : i ≤ xs.length
  · rw [Nat.min_eq_left h, List.take_of_length_le (by simp)]
  · rw [Nat.min_eq_right (by omega), List.drop_of_length_le (Nat.le_refl _), List.drop_of_length_le (by omega)]; simp
theorem cutL_to {α : Type} {xs : List α} {j : Nat} : cutL xs none (some (j : Int)) = xs.take j := by
  unfold cutL
  rw [HT.sIx_nat, HT.sIx_none, List.drop_zero, Nat.sub_zero]
  by_cases h : j ≤ xs.length
  · rw [Nat.min_eq_left h]
  · rw [Nat.min_eq_right (by omega), List.take_of_length_le (Nat.le_refl _), List.take_of_length_le (by omega)]
theorem cutL_last {α : Type} (xs : List α) : cutL xs (some (-(1 : Int))) none = xs.drop (xs.length - 1) := by
  have e : HT.sIx xs.length 0 (some (-(1 : Int))) = xs.length - 1 := by
    show (if (-(1 : Int)) < 0 then (-(1 : Int) + (xs.length : Int)).toNat else min (-(1 : Int)).toNat xs.length) = _
    rw [if_pos (by decide)]; omega
  unfold cutL
  rw [e, HT.sIx_none, List.take_of_length_le (by simp)]
theorem sum_sub : ∀ {xs ys : List Int}, List.Sublist xs ys → (∀ y ∈ ys, 0 ≤ y) → 0 ≤ xs.sum ∧ xs.sum ≤ ys.sum := by
  intro xs ys h
  induction h with
  | slnil => simp
  | cons a h ih => intro hy; have := ih fun y m => hy y (List.mem_cons_of_mem _ m); have := hy a (List.mem_cons_self ..); simp only [List.sum_cons]; omega
  | cons_cons a h ih => intro hy; have := ih fun y m => hy y (List.mem_cons_of_mem _ m); have := hy a (List.mem_cons_self ..); simp only [List.sum_cons]; omega
theorem cutL_sub {α : Type} (xs : List α) (a b : Option Int) : List.Sublist (cutL xs a b) xs := by
  unfold cutL
  exact (List.take_sublist _ _).trans (List.drop_sublist _ _)
theorem sum_le_len {xs : List Int} {m : Int} (h : ∀ x ∈ xs, x ≤ m) : xs.sum ≤ m * xs.length := by
  induction xs with
  | nil => simp
  | cons x xs ih =>
    have := ih fun y hy => h y (List.mem_cons_of_mem _ hy)
    have := h x (List.mem_cons_self ..)
    rw [List.sum_cons, List.length_cons]
    have e : m * ((xs.length + 1 : Nat) : Int) = m * xs.length + m := by
      rw [show ((xs.length + 1 : Nat) : Int) = (xs.length : Int) + 1 by omega, Int.mul_add, Int.mul_one]
    omega
end Z
namespace Z
open PySem PySem.Spec PyProof.Rows L2
section
variable {α β S Ω : Type}
/-- a walk that ends somehow -/
theorem forO_ex {Pr : Ω → Prop} (Inv : S → Prop) {b : α → S → (S → Option Ω) → Option Ω} {k : S → Option Ω} : ∀ {xs : List α} {s : S}, Inv s →
    (∀ s x, x ∈ xs → Inv s → ∀ kc : S → Option Ω, (∀ s', Inv s' → ∃ r, kc s' = some r ∧ Pr r) → ∃ r, b x s kc = some r ∧ Pr r) → (∀ s, Inv s → ∃ r, k s = some r ∧ Pr r) → ∃ r, forO xs s b k = some r ∧ Pr r
  | [], s, h0, _, he => he s h0
  | x :: xs, s, h0, hs, he => hs s x (List.mem_cons_self ..) h0 _ fun s' h' => forO_ex Inv h' (fun s y m => hs s y (List.mem_cons_of_mem _ m)) he
theorem ite_wp {c : Prop} [Decidable c] {x y : Option Ω} {ω : Ω} (h1 : c → x = some ω) (h2 : ¬ c → y = some ω) : (if c then x else y) = some ω := by
  split
  · exact h1 ‹_›
  · exact h2 ‹_›
theorem ite_d {c : Prop} [Decidable c] {Γ : Type} {x y : Γ} : (if (decide c) = true then x else y) = if c then x else y := by
  by_cases h : c
  · rw [if_pos h, if_pos (decide_eq_true h)]
  · rw [if_neg h, if_neg (by simpa using h)]
theorem ite_nd {c : Prop} [Decidable c] {Γ : Type} {x y : Γ} : (if (!decide c) = true then x else y) = if c then y else x := by
  by_cases h : c
  · rw [if_pos h, decide_eq_true h, if_neg (by decide)]
  · rw [if_neg h, decide_eq_false h, if_pos (by decide)]
theorem ite_t {Γ : Type} {x y : Γ} : (if (true : Bool) = true then x else y) = x := rfl
theorem ite_f {Γ : Type} {x y : Γ} : (if (false : Bool) = true then x else y) = y := rfl
theorem ite_nt {Γ : Type} {x y : Γ} : (if (!(true : Bool)) = true then x else y) = y := rfl
theorem ite_nf {Γ : Type} {x y : Γ} : (if (!(false : Bool)) = true then x else y) = x := rfl
theorem len_pos_d {xs : List α} : (decide ((0 : Int) < (xs.length : Int))) = !xs.isEmpty := by
  cases xs <;> simp
theorem ck_pos {b : Bool} {k : Option Ω} (h : b = true) : ck b k = k := by rw [h]; rfl
end
end Z
namespace Z
open PySem PySem.Spec PyProof.Rows L2
section
variable {α β S Ω : Type}
theorem forO_exN {Pr : Ω → Prop} (Inv : Nat → S → Prop) {b : α → S → (S → Option Ω) → Option Ω} {k : S → Option Ω} : ∀ (xs : List α) (n : Nat) (s : S), Inv n s →
    (∀ i s x, xs[i]? = some x → Inv (n + i) s → ∀ kc : S → Option Ω, (∀ s', Inv (n + i + 1) s' → ∃ r, kc s' = some r ∧ Pr r) → ∃ r, b x s kc = some r ∧ Pr r) → (∀ s, Inv (n + xs.length) s → ∃ r, k s = some r ∧ Pr r) → ∃ r, forO xs s b k = some r ∧ Pr r
  | [], n, s, h0, _, he => he s h0
  | x :: xs, n, s, h0, hs, he => hs 0 s x rfl h0 _ fun s' h' => forO_exN Inv xs (n + 1) s' h'
      (fun i s y e h kc hk => hs (i + 1) s y e (by rw [show n + (i + 1) = n + 1 + i by omega]; exact h) kc fun s' h' => hk s' (by rw [show n + 1 + i + 1 = n + (i + 1) + 1 by omega]; exact h'))
      fun s h => he s (by rw [show n + (x :: xs).length = n + 1 + xs.length by simp; omega]; exact h)
theorem enumL_rng {xs : List α} (d : α) : enumL xs = (rangeL 0 (xs.length : Int)).map fun i => (i, xs.getD i.toNat d) := by
  rw [rangeL_nat, List.map_map]
  refine List.ext_getElem? fun i => ?_
  rw [enumL_get, List.getElem?_map]
  by_cases h : i < xs.length
  · rw [List.getElem?_range h]; simp [List.getElem?_eq_getElem h, List.getD_eq_getElem?_getD]
  · rw [List.getElem?_eq_none (by omega), List.getElem?_eq_none (by simp; omega)]; rfl
end
end Z
namespace Z
open PySem PySem.Spec PyProof.Rows L2
section
variable {α β S Ω : Type}
/-- a walk that goes through and leaves something -/
theorem forO_run (Inv : Nat → S → Prop) {b : α → S → (S → Option Ω) → Option Ω} : ∀ (xs : List α) (n : Nat) (s : S), Inv n s → (∀ i s x, xs[i]? = some x → Inv (n + i) s → ∃ s', Inv (n + i + 1) s' ∧ ∀ kc, b x s kc = kc s') → ∃ s', Inv (n + xs.length) s' ∧ ∀ k, forO xs s b k = k s'
  | [], n, s, h, _ => ⟨s, h, fun _ => rfl⟩
  | x :: xs, n, s, h, hs => by
    obtain ⟨s1, h1, e1⟩ := hs 0 s x rfl h
    obtain ⟨s2, h2, e2⟩ := forO_run Inv xs (n + 1) s1 h1 fun i s y hy hi => by
      have := hs (i + 1) s y hy (by rw [show n + (i + 1) = n + 1 + i by omega]; exact hi)
      rwa [show n + (i + 1) + 1 = n + 1 + i + 1 by omega] at this
    exact ⟨s2, by rw [show n + (x :: xs).length = n + 1 + xs.length by simp; omega]; exact h2, fun k => (e1 _).trans (e2 k)⟩
/-- a walk that sifts into a list -/
theorem forO_filt (f : α → Option β) {b : α → List β → (List β → Option Ω) → Option Ω} {k : List β → Option Ω} : ∀ (xs : List α) (acc : List β), acc.length + xs.length ≤ SZ → (∀ x ∈ xs, ∀ t kc, t.length < SZ → b x t kc = kc (t ++ (f x).toList)) → forO xs acc b k = k (acc ++ xs.filterMap f)
  | [], acc, _, _ => by simp [forO]
  | x :: xs, acc, hl, h => by
    rw [List.length_cons] at hl
    show b x acc _ = _
    rw [h x (List.mem_cons_self ..) acc _ (by omega), List.filterMap_cons]
    cases f x with
    | none =>
      rw [Option.toList_none, List.append_nil]
      exact forO_filt f xs acc (by omega) fun y m => h y (List.mem_cons_of_mem _ m)
    | some y =>
      rw [Option.toList_some, forO_filt f xs (acc ++ [y]) (by simp; omega) fun y m => h y (List.mem_cons_of_mem _ m)]
      simp
/-- a while that ends: by a measure -/
theorem whileO_run (Inv : S → Prop) (ms : S → Nat) (done : S → Prop) {b : S → (S → Option Ω) → Option Ω} (hstep : ∀ s, Inv s → ¬ done s → ∃ s', Inv s' ∧ ms s' < ms s ∧ ∀ kc, b s kc = kc s') : ∀ (fu : Nat) (s : S), ms s < fu → Inv s → ∃ s', Inv s' ∧ done s' ∧ ∃ fu', whileO fu s b = whileO (fu' + 1) s' b
  | 0, s, h, _ => absurd h (Nat.not_lt_zero _)
  | fu + 1, s, h, hi => by
    by_cases hd : done s
    · exact ⟨s, hi, hd, fu, rfl⟩
    · obtain ⟨s1, i1, m1, e1⟩ := hstep s hi hd
      obtain ⟨s2, i2, d2, f2, e2⟩ := whileO_run Inv ms done hstep fu s1 (by omega) i1
      exact ⟨s2, i2, d2, f2, (e1 _).trans e2⟩
end
end Z
namespace Z
open PySem PySem.Spec PyProof.Rows L2
/-! ### words of faults -/
def wd (s : Str) : PyData := .tuple [.str s]
def wd1 (s : Str) (k : Int) : PyData := .tuple [.str s, .int k]
def wd2 (s : Str) (i j : Int) : PyData := .tuple [.str s, .int i, .int j]
theorem shaped_wd {s : Str} (h : PyData.strOk s = true) : SeqAt.shaped (wd s) = true := by
  simp [SeqAt.shaped, wd, PyData.canLay0, PyData.canLayAll0, PyData.depth, PyData.depthAll, h]
theorem shaped_wd1 {s : Str} {k : Int} (h : PyData.strOk s = true) : SeqAt.shaped (wd1 s k) = true := by
  simp [SeqAt.shaped, wd1, PyData.canLay0, PyData.canLayAll0, PyData.depth, PyData.depthAll, h]
theorem shaped_wd2 {s : Str} {i j : Int} (h : PyData.strOk s = true) : SeqAt.shaped (wd2 s i j) = true := by
  simp [SeqAt.shaped, wd2, PyData.canLay0, PyData.canLayAll0, PyData.depth, PyData.depthAll, h]
theorem shaped_none : SeqAt.shaped PyData.none = true := by decide
theorem shaped_eqv {d : PyData} (h : SeqAt.shaped d = true) : PyData.eqv d d = true := PySem.SeqAt.eqv_refl d (SeqAt.canLay_of_shaped h)
/-- lists of ints that are shown -/
def Bnd (n : Nat) (xs : List Int) : Prop := xs.length ≤ n ∧ ∀ x ∈ xs, x.natAbs < 10 ^ 12
theorem shInts {n : Nat} {xs : List Int} (h : Bnd n xs) : Sh 1 (n * 1) ((eL eI).enc xs) := by
  have := shL (k := 0) (m := 0) (n := n) (ds := xs.map eI.enc) (fun d m => by obtain ⟨x, mx, rfl⟩ := List.mem_map.1 m; exact shI (h.2 x mx)) (by simpa using h.1)
  exact this
theorem rangeL_asc {lo hi : Int} : (rangeL lo hi).Pairwise (· < ·) := by
  unfold rangeL
  rw [List.pairwise_map]
  exact List.pairwise_lt_range.imp fun {a b} h => by omega
theorem asc_sublist {hi : Int} : ∀ (n : Nat) (lo : Int) (row : List Int), (hi - lo).toNat = n → row.Pairwise (· < ·) → (∀ x ∈ row, lo ≤ x ∧ x < hi) → List.Sublist row (rangeL lo hi)
  | _, lo, [], _, _, _ => List.nil_sublist _
  | 0, lo, x :: row, hn, _, h => by have := h x (List.mem_cons_self ..); omega
  | n + 1, lo, x :: row, hn, p, h => by
    have hx := h x (List.mem_cons_self ..)
    rw [rangeL_cons' (by omega)]
    obtain ⟨p1, p2⟩ := List.pairwise_cons.1 p
    by_cases e : x = lo
    · subst e
      exact List.Sublist.cons_cons _ (asc_sublist n (x + 1) row (by omega) p2 fun y m => ⟨by have := p1 y m; omega, (h y (List.mem_cons_of_mem _ m)).2⟩)
    · refine List.Sublist.cons _ (asc_sublist n (lo + 1) (x :: row) (by omega) p fun y m => ⟨?_, (h y m).2⟩)
      rcases List.mem_cons.1 m with rfl | m
      · omega
      · have := p1 y m; omega
end Z

set_option Elab.async false
set_option linter.all false
set_option maxRecDepth 100000
namespace Z
open PySem PySem.Spec PyProof.Rows L2
section
variable {X : Cx} {Ω : Type} {env : Env} {nm : Str} {pos np rp p2 : Pos} {a b e : Expr} {P P1 P2 : Type} {e' : P → Env} {e1 : P1 → Env} {e2 : P1 → P2 → Env}
/-- a whole number of the top -/
theorem lx_gI {n : Int} (h : ∃ t, X.mg nm = some (.int n t)) (hg : Gl X nm := by rfl) (hd : (nm == ("__debug__" : Str)) = false := by decide) : LX X env (.Name nm pos) (it eI) (fun _ : Unit => env) (fun (k : Int → Unit → Option Ω) => k n ()) := by
  obtain ⟨t, h⟩ := h
  exact lx_c (pe_glob (v := .int n) hg h ⟨t, rfl⟩ hd) fun _ => .int n
/-- list(range(n)) -/
theorem rgV_eq (lo hi : Int) : rgV lo hi = (rangeL lo hi).map V.int := by
  unfold rgV rangeL
  rw [List.map_map]; rfl
theorem lx_listrg1 {f : (Int → P → Option Ω) → Option Ω} (hc : X.calm = true) (hm : X.mg "list" = none) (hm2 : X.mg "range" = none) (ha : LX X env a (it eI) e' f) (hg : Gl X "list" := by rfl) (hg2 : Gl X "range" := by rfl)
    (na : starEach [a] X.env = (false, eval a X.env) :: starEach [] X.env := by rfl) (nb : starEach [Expr.Call (.Name "range" rp) [a] [] p2] X.env = (false, eval (Expr.Call (.Name "range" rp) [a] [] p2) X.env) :: starEach [] X.env := by rfl) :
    LX X env (.Call (.Name "list" np) [.Call (.Name "range" rp) [a] [] p2] [] pos) (ls (it eI)) e' (fun k => f fun n p => ck (decide (-(2 ^ 62) ≤ n ∧ n ≤ 16777216)) (k (rangeL 0 n) p)) :=
  fun C F H σs es σ k ω Q hK hl h hk q => tE.of X (pe_listRg hc hg hm (prg_1 hg2 hm2 (peC X) na) nb) (lo_run (lo_of ha) (fun _ => trivial) hK hl h hk fun n p v F' H' fp hk' h' rr => by
    obtain ⟨hc, hk2⟩ := ck_some hk'
    obtain ⟨_, rr⟩ := rr
    cases rr
    have hc := of_decide_eq_true hc
    refine ⟨n, rfl, ?_, fun t nt => ?_⟩
    · exact ⟨by omega, by omega, by omega, by omega, by omega⟩
    · rw [rgV_eq]
      exact q _ p _ F' _ hk2 (h'.newOw nt ⟨t, _, [], rfl, upd_same, (RepAll.ofInts (rangeL 0 n)).zero, rfl⟩))
/-- range(a, b, -1) -/
def downL (lo hi : Int) : List Int := (List.range (lo - hi).toNat).map fun i : Nat => lo - (i : Nat)
theorem yields_down {C : Ck} {lo hi : Int} : Yields C (it eI) (Itc lo (-1) (lo - hi).toNat) (downL lo hi) [] [] := ⟨rfl, fun i F H σ2 σb e2 eb hl2 h2 => by
  refine ⟨fun y hy => ?_, fun hn => ?_⟩
  · unfold downL at hy
    rw [List.getElem?_map] at hy
    by_cases hi : i < (lo - hi).toNat
    · rw [List.getElem?_range hi] at hy
      simp at hy; subst hy
      refine ⟨hi, fun v H' hy' => ⟨F, ?_⟩⟩
      obtain ⟨e1, e2⟩ := hy'
      rw [e1, e2, show lo + (i : Int) * (-1) = lo - i by omega]
      exact h2.pushSh (.int _)
    · rw [List.getElem?_eq_none (by simpa using hi)] at hy; cases hy
  · unfold downL at hn
    rw [List.getElem?_eq_none_iff] at hn
    simp at hn
    show (lo - hi).toNat ≤ i
    omega⟩
theorem li_down {tg : Expr} {f1 : (Int → P1 → Option Ω) → Option Ω} {f2 : P1 → (Int → P2 → Option Ω) → Option Ω} {p u1 u2 : Pos} {j : Nat} (hg : Gl X "range") (hm : X.mg "range" = none) (h1 : LX X env a (it eI) e1 f1) (h2 : ∀ p1, LX X (e1 p1) b (it eI) (e2 p1) (f2 p1))
    (hs : starEach [a, b, .UnaryOp .USub (.Constant (.int 1) j u1) u2] X.env = (false, eval a X.env) :: starEach [b, .UnaryOp .USub (.Constant (.int 1) j u1) u2] X.env := by rfl) (hs2 : starEach [b, .UnaryOp .USub (.Constant (.int 1) j u1) u2] X.env = (false, eval b X.env) :: starEach [.UnaryOp .USub (.Constant (.int 1) j u1) u2] X.env := by rfl)
    (hs3 : starEach [.UnaryOp .USub (.Constant (.int 1) j u1) u2] X.env = (false, eval (.UnaryOp .USub (.Constant (.int 1) j u1) u2) X.env) :: starEach [] X.env := by rfl) (hpl : (backTo pos (starEach [b, .UnaryOp .USub (.Constant (.int 1) j u1) u2] X.env)).any (·.1) = false := by rfl) :
    LI X env tg (.Call (.Name "range" p) [a, b, .UnaryOp .USub (.Constant (.int 1) j u1) u2] [] pos) (it eI) (fun q : P1 × P2 => e2 q.1 q.2) (fun k => f1 fun x p1 => f2 p1 fun y p2 => ck (rgOk x y) (k (downL x y) (p1, p2))) :=
  fun C F H σs es σ k ω R hK hl hr hk q => tI.of X (pi_range3 hg hm (pa_cons (peC X) (pa_cons (peC X) (pa_cons (pe_un un_neg pe_int) pa_nil hs3) hs2) hs) hs hpl) (op2_run (lo_of h1) (fun p1 => lo_of (h2 p1)) (fun _ _ => trivial) (fun _ _ => trivial) hK hl hr hk
    fun x p1 y p2 v u F' H' fp fq hk' h' r1 r2 => by
      obtain ⟨hc, hk2⟩ := ck_some hk'
      obtain ⟨_, r1⟩ := r1
      obtain ⟨_, r2⟩ := r2
      cases r1; cases r2
      have hc := of_decide_eq_true (p := -(2 ^ 62) ≤ x ∧ x < 2 ^ 62 ∧ -(2 ^ 62) ≤ y ∧ y < 2 ^ 62) hc
      exact ⟨1, rfl, x, y, -1, (x - y).toNat, rfl, RgC.neg hc.1 hc.2.1 hc.2.2.1 hc.2.2.2, q (downL x y) (p1, p2) _ F' H' [] [] hk2 h' yields_down⟩)
end
end Z
namespace Z
open PySem PySem.Spec PyProof.Rows L2
section
variable {α Ω : Type}
/-- a walk that ends at the first one that .. -/
theorem forO_find (P : α → Bool) (f : α → Ω) {b : α → Unit → (Unit → Option Ω) → Option Ω} {k : Unit → Option Ω} : ∀ (xs : List α), (∀ x ∈ xs, ∀ kc, b x () kc = if P x = true then some (f x) else kc ()) → forO xs () b k = (xs.find? P).elim (k ()) (fun x => some (f x))
  | [], _ => rfl
  | x :: xs, h => by
    show b x () _ = _
    rw [h x (List.mem_cons_self ..), List.find?_cons]
    cases P x with
    | true => rfl
    | false => exact forO_find P f xs fun y m => h y (List.mem_cons_of_mem _ m)
end
end Z
namespace Z
theorem forO_mapL {α β S Ω : Type} (f : α → β) {b : β → S → (S → Option Ω) → Option Ω} {k : S → Option Ω} : ∀ (xs : List α) (s : S), forO (xs.map f) s b k = forO xs s (fun x => b (f x)) k
  | [], s => rfl
  | x :: xs, s => congrArg (b (f x) s) (funext fun s' => forO_mapL f xs s')
end Z

set_option Elab.async false
set_option linter.all false
set_option maxRecDepth 100000
namespace Z
open PySem PySem.Spec PyProof.Rows L2
theorem eLD {τ : Type} {E : Enc τ} {a : List τ} : (eL eD).enc (List.map E.enc a) = (eL E).enc a := by simp [eL, eD]
section
variable {X : Cx} {Ω : Type} {env : Env} {τ τ1 α : Type} {S : Stor τ} {S1 : Stor τ1} {E : Enc α} {pos : Pos} {a b : Expr} {P1 P2 : Type} {fa : (τ1 → P1 → Option Ω) → Option Ω} {e1 : P1 → Env} {g1 : τ1 → List α} {e2 : P1 → P2 → Env} {G1 : Env → Prop}
theorem RepAll.flat {K : Fg} {F : Hp} {vs : List V} {ds : List PyData} (h : RepAll K F vs ds) : ∀ n : Nat, RepAll K F (List.replicate n vs).flatten (List.replicate n ds).flatten
  | 0 => .nil
  | n + 1 => by
    rw [List.replicate_succ, List.replicate_succ, List.flatten_cons, List.flatten_cons]
    exact h.app (RepAll.flat h n)
/-- xs * n -/
theorem lx_rep {fb : P1 → (Int → P2 → Option Ω) → Option Ω} (hv1 : LVm S1 (it E) g1) (ha : LO X G1 env a S1 e1 fa) (hb : ∀ p1, LX X (e1 p1) b (it eI) (e2 p1) (fb p1)) (h1 : ∀ p1 p2, G1 (e2 p1 p2)) :
    LX X env (.BinOp a .Mult b pos) (ls (it E)) (fun p : P1 × P2 => e2 p.1 p.2) (fun k => fa fun x p1 => fb p1 fun n p2 => ck (decide (-(2 ^ 62) ≤ n ∧ n ≤ 16777216 ∧ (g1 x).length * n.toNat ≤ SZ)) (k ((List.replicate n.toNat (g1 x)).flatten) (p1, p2))) :=
  fun C F H σs es σ k ω Q hK hl h hk q => tE.of X (pe_op op_rep (peC X) (peC X)) (op2_run ha (fun p1 => lo_of (hb p1)) h1 (fun _ _ => trivial) hK hl h hk fun x p1 n p2 v u F' H' fp fq hk' h' r1 r2 => by
    obtain ⟨hc, hk'⟩ := ck_some hk'
    obtain ⟨_, r2⟩ := r2
    cases r2
    obtain ⟨p, vs, fps, rfl, l1, ra⟩ := hv1.view h'.sF r1
    have hc' := of_decide_eq_true hc
    have n1 := ra.length
    refine ⟨p, n, vs, rfl, rfl, l1, Int.le_trans (by decide) hc'.1, Int.lt_of_le_of_lt hc'.2.1 (by decide), by rw [SZ_eq, n1]; exact hc'.2.2, fun t nt => ?_⟩
    refine q _ (p1, p2) (.ref t) F' _ hk' (h'.newOw nt ⟨t, _, [], rfl, upd_same, ?_, rfl⟩)
    have := ra.zero.2.flat n.toNat
    have e : (List.replicate n.toNat ((g1 x).map E.enc)).flatten = ((List.replicate n.toNat (g1 x)).flatten).map E.enc := by
      rw [List.map_flatten, List.map_replicate]
    rw [e] at this
    exact this.zero)
/-- [] of own things -/
theorem lx_nilS {Sa : Stor α} : LX X env (.List [] pos) (ls Sa) (fun _ : Unit => env) (fun (k : List α → Unit → Option Ω) => k [] ()) :=
  fun C F H σs es σ k ω Q hK hl hr hk q => tE.of X (pe_lst (paC X)) (la_nil C F H σs es σ _ ω _ hK hl hr hk fun a p vs F' H' hk' hlv h' => by
    match vs, hlv with
    | [], _ =>
      refine ⟨by decide, fun t nt => ?_⟩
      exact q [] () (.ref t) F' _ hk' (h'.newOw nt ⟨t, [], [], rfl, upd_same, .nil, rfl⟩))
end
/-! ### cuts: nothing changed, one way on -/
section
variable {X : Cx} {Ω : Type} {env : Env} {τ : Type} {S : Stor τ} {e : Expr} {P : Type} {e' : P → Env}
theorem lx_nc {f : (τ → P → Option Ω) → Option Ω} (h : LX X env e S e' f) (hs : ∀ p, e' p = env) : LX X env e S (fun _ : Unit => env) (fun (k : τ → Unit → Option Ω) => f fun a _ => k a ()) :=
  fun C F H σs es σ k ω Q hK hl hr hk q => h C F H σs es σ _ ω Q hK hl hr hk fun a p v F' H' hka h' => q a () v F' H' hka (by rw [hs p] at h'; exact h')
/-- .. and one way on -/
theorem lx_cut {f : (τ → P → Option τ) → Option τ} (h : LX (Ω := τ) X env e S e' f) (hs : ∀ p, e' p = env) : LX X env e S (fun _ : Unit => env) (fun (k : τ → Unit → Option Ω) => (f fun a _ => some a).bind fun a => k a ()) :=
  fun C F H σs es σ k ω Q hK hl hr hk q => by
    obtain ⟨r, hf, hk⟩ := bind_some hk
    exact h C F H σs es σ (fun a _ => some a) r Q hK hl hr hf fun a p v F' H' hka h' => q a () v F' H' (by cases hka; exact hk) (by rw [hs p] at h'; exact h')
theorem lt_cut {f : (Bool → P → Option Bool) → Option Bool} (h : LT (Ω := Bool) X env e e' f) (hs : ∀ p, e' p = env) : LT X env e (fun _ : Unit => env) (fun (k : Bool → Unit → Option Ω) => (f fun b _ => some b).bind fun b => k b ()) :=
  fun C F H σs es σ k ω Q hK hl hr hk q => by
    obtain ⟨r, hf, hk⟩ := bind_some hk
    exact h C F H σs es σ (fun a _ => some a) r Q hK hl hr hf fun a p F' H' hka h' => q a () F' H' (by cases hka; exact hk) (by rw [hs p] at h'; exact h')
end
section
variable {X : Cx} {R I Ω J : Type} {SR : Stor R} {envR : I → Env} {kr : R → I → Option Ω} {bk ct : Lp Ω} {env : Env} {rest : List Stmt} {envJ : J → Env} {nm nm2 nm3 : Str} {pos : Pos} {a b c : Expr} {P : Type} {e' : P → Env}
/-- lb_par, whose slots are read off last (else the parts are walked blind) -/
theorem lb_parS {τ1 τ2 : Type} {S1 : Stor τ1} {S2 : Stor τ2} {sl : τ1 × τ2 × Unit → Env} {f : ((τ1 × τ2 × Unit) → P → Option Ω) → Option Ω} {fr : τ1 → τ2 → P → (J → Option Ω) → Option Ω} {px py pt : Pos} {kt k2 : Nat} {pt2 : Pos} (i j : Nat) (hN : X.N.Nodup) (hc : X.calm = true) (ha : LA X env [a, b] sl e' f) (hsl : ∀ p, sl p = [.st none τ1 S1 p.1, .st none τ2 S2 p.2.1])
    (hr : ∀ x y p, LB X SR envR kr bk ct (((e' p).set i (.st none τ1 S1 x)).set j (.st none τ2 S2 y)) rest envJ (fr x y p))
    (hi : X.N[i]? = some nm := by rfl) (hj : X.N[j]? = some nm2 := by rfl) (hij : i ≠ j := by decide) (hx : X.env.scope.names.lookup nm = some .local := by rfl) (hy : X.env.scope.names.lookup nm2 = some .local := by rfl)
    (hli : ∀ p, i < (e' p).length := by exact (fun _ => Nat.lt_of_sub_eq_succ rfl)) (hlj : ∀ p, j < (e' p).length := by exact (fun _ => Nat.lt_of_sub_eq_succ rfl))
    (hw : swappedStores [.Tuple [.Name nm px, .Name nm2 py] kt pt] (.Tuple [a, b] k2 pt2) X.env = pure (some [nm, nm2]) := by rfl)
    (hs : swapsWithSole [.Tuple [.Name nm px, .Name nm2 py] kt pt] (.Tuple [a, b] k2 pt2) pos.line X.env = pure false := by rfl) :
    LB X SR envR kr bk ct env (.Assign [.Tuple [.Name nm px, .Name nm2 py] kt pt] (.Tuple [a, b] k2 pt2) pos :: rest) envJ (fun kn => f fun r p => fr r.1 r.2.1 p kn) := by
  obtain rfl : sl = _ := funext hsl
  exact lb_par i j hN hc ha hr hi hj hij hx hy hli hlj hw hs
theorem lb_par3S {τ1 τ2 τ3 : Type} {S1 : Stor τ1} {S2 : Stor τ2} {S3 : Stor τ3} {sl : τ1 × τ2 × τ3 × Unit → Env} {f : ((τ1 × τ2 × τ3 × Unit) → P → Option Ω) → Option Ω} {fr : τ1 → τ2 → τ3 → P → (J → Option Ω) → Option Ω} {px py pz pt : Pos} {kt k2 : Nat} {pt2 : Pos} (i j l : Nat) (hN : X.N.Nodup) (hc : X.calm = true) (ha : LA X env [a, b, c] sl e' f) (hsl : ∀ p, sl p = [.st none τ1 S1 p.1, .st none τ2 S2 p.2.1, .st none τ3 S3 p.2.2.1])
    (hr : ∀ x y z p, LB X SR envR kr bk ct ((((e' p).set i (.st none τ1 S1 x)).set j (.st none τ2 S2 y)).set l (.st none τ3 S3 z)) rest envJ (fr x y z p))
    (hi : X.N[i]? = some nm := by rfl) (hj : X.N[j]? = some nm2 := by rfl) (hl3 : X.N[l]? = some nm3 := by rfl) (hij : i ≠ j := by decide) (hil : i ≠ l := by decide) (hjl : j ≠ l := by decide) (hx : X.env.scope.names.lookup nm = some .local := by rfl) (hy : X.env.scope.names.lookup nm2 = some .local := by rfl) (hz : X.env.scope.names.lookup nm3 = some .local := by rfl)
    (hli : ∀ p, i < (e' p).length := by exact (fun _ => Nat.lt_of_sub_eq_succ rfl)) (hlj : ∀ p, j < (e' p).length := by exact (fun _ => Nat.lt_of_sub_eq_succ rfl)) (hll : ∀ p, l < (e' p).length := by exact (fun _ => Nat.lt_of_sub_eq_succ rfl))
    (hw : swappedStores [.Tuple [.Name nm px, .Name nm2 py, .Name nm3 pz] kt pt] (.Tuple [a, b, c] k2 pt2) X.env = pure (some [nm, nm2, nm3]) := by rfl)
    (hs : swapsWithSole [.Tuple [.Name nm px, .Name nm2 py, .Name nm3 pz] kt pt] (.Tuple [a, b, c] k2 pt2) pos.line X.env = pure false := by rfl) :
    LB X SR envR kr bk ct env (.Assign [.Tuple [.Name nm px, .Name nm2 py, .Name nm3 pz] kt pt] (.Tuple [a, b, c] k2 pt2) pos :: rest) envJ (fun kn => f fun r p => fr r.1 r.2.1 r.2.2.1 p kn) := by
  obtain rfl : sl = _ := funext hsl
  exact lb_par3 i j l hN hc ha hr hi hj hl3 hij hil hjl hx hy hz hli hlj hll hw hs
end
/-! ### items of a list of own lists -/
theorem ixN_lt' {n i : Nat} {j : Int} (h : ixN n j = some i) : i < n := by
  unfold ixN at h
  split at h
  · split at h
    · cases h; omega
    · cases h
  · split at h
    · cases h; omega
    · cases h
theorem RelAll.split {α : Type} {R : List Addr → V → α → Prop} : ∀ {fp : List Addr} {vs : List V} {xs : List α}, RelAll R fp vs xs → ∀ {n : Nat} {x : α}, xs[n]? = some x →
    ∃ fp1 fq fp2 v, fp = fp1 ++ (fq ++ fp2) ∧ vs[n]? = some v ∧ R fq v x ∧ ∀ (R' : List Addr → V → α → Prop) (fq' : List Addr) (x' : α), (∀ fr w y, (∀ a ∈ fr, a ∈ fp1 ∨ a ∈ fp2) → R fr w y → R' fr w y) → R' fq' v x' → RelAll R' (fp1 ++ (fq' ++ fp2)) vs (xs.set n x')
  | _, _, _, .nil, n, x, e => by simp at e
  | _, _, _, .cons (fp := fq) (fps := fps) h r, 0, x, e => by
    simp at e; subst e
    refine ⟨[], fq, fps, _, rfl, rfl, h, fun R' fq' x' f q => ?_⟩
    have := RelAll.cons q (RelAll.imp (R' := R') (fun fr w y s z => f fr w y (fun a m => .inr (s a m)) z) r)
    simpa using this
  | _, _, _, .cons (fp := fq) (fps := fps) h r, n + 1, x, e => by
    obtain ⟨fp1, fr, fp2, u, rfl, e2, hr, k⟩ := RelAll.split r (n := n) (by simpa using e)
    refine ⟨fq ++ fp1, fr, fp2, u, by simp [List.append_assoc], by simpa using e2, hr, fun R' fq' x' f q => ?_⟩
    have := RelAll.cons (f _ _ _ (fun a m => .inl (List.mem_append_left _ m)) h) (k R' fq' x' (fun fs w y s z => f fs w y (fun a m => (s a m).elim (fun m => .inl (List.mem_append_right _ m)) .inr) z) q)
    simpa [List.append_assoc] using this
/-- a list whose object and items are known: while it is written to -/
def pinL {α : Type} (S : Stor α) (q : Addr) (vs : List V) : Stor (List α) where
  rel := fun K F H fp v xs => ∃ fps, v = .ref q ∧ H q = some (.lst vs) ∧ RelAll (S.rel K F H) fps vs xs ∧ fp = q :: fps
  monoF := fun s h => by
    obtain ⟨fps, rfl, hp, r, rfl⟩ := h
    exact ⟨fps, rfl, hp, r.imp fun _ _ _ _ q => S.monoF s q, rfl⟩
  frame := fun f h => by
    obtain ⟨fps, rfl, hp, r, rfl⟩ := h
    exact ⟨fps, rfl, by rw [f _ List.mem_cons_self]; exact hp, r.imp fun fq _ _ s q => S.frame (fun a m => f a (List.mem_cons_of_mem _ (s a m))) q, rfl⟩
section
variable {X : Cx} {R I Ω : Type} {SR : Stor R} {envR : I → Env} {kr : R → I → Option Ω} {bk ct : Lp Ω} {env : Env} {nm : Str} {pos : Pos} {e ie : Expr} {rest : List Stmt} {P P1 P2 α : Type} {E : Enc α} {J : Type} {envJ : J → Env}
theorem ER.pin {C : Ck} {F H : Hp} {σ : List (Option V)} {env : Env} {w : Option V} {Sa : Stor α} {xs : List α} {i : Nat} {q1 : Addr} (h : ER C F H σ env) (e : env[i]? = some (.st w (List α) (ls Sa) xs)) (hv : σ[i]? = some (some (.ref q1))) :
    ∃ vs, ER C F H σ (env.set i (.st w (List α) (pinL Sa q1 vs) xs)) := by
  obtain ⟨v, fp, e1, r, nd, ow, fin⟩ := h.mut e
  rw [hv] at e1; cases e1
  obtain ⟨q, vs, fps, e2, hq, ra, rfl⟩ := r
  cases e2
  exact ⟨vs, fin (List α) (pinL Sa q1 vs) xs H (q1 :: fps) (fun _ _ _ => rfl) (fun _ m => m) ⟨fps, rfl, hq, ra, rfl⟩ nd fun a m => ⟨(ow a m).2.2, .inl m⟩⟩
/-- x[i].append(e), x a list of own lists -/
theorem lb_appIx {fi : (Int → P1 → Option Ω) → Option Ω} {f : P1 → (α → P2 → Option Ω) → Option Ω} {fr : Int → P1 → α → P2 → List (List α) → (J → Option Ω) → Option Ω} {e1 : P1 → Env} {e2 : Addr → List V → P1 → P2 → Env} {w : Option V} {xs : List (List α)} {ap cp np sp : Pos} (i : Nat) (h0 : env[i]? = some (.st w (List (List α)) (ls (ls (it E))) xs))
    (hi : LX X env ie (it eI) e1 fi) (h1 : ∀ p, (e1 p)[i]? = some (.st w (List (List α)) (ls (ls (it E))) xs)) (he : ∀ q vs p, LX X ((e1 p).set i (.st w (List (List α)) (pinL (ls (it E)) q vs) xs)) e (it E) (e2 q vs p) (f p)) (h2 : ∀ q vs p p2, (e2 q vs p p2)[i]? = some (.st w (List (List α)) (pinL (ls (it E)) q vs) xs))
    (hr : ∀ q vs j p y p2 zs, LB X SR envR kr bk ct ((e2 q vs p p2).set i (.st w (List (List α)) (ls (ls (it E))) zs)) rest envJ (fr j p y p2 zs))
    (hN : X.N[i]? = some nm := by rfl) (hv : Vis X.env.scope nm := by first | exact Or.inl rfl | exact Or.inr (Or.inl rfl) | exact Or.inr (Or.inr rfl))
    (hd : (nm == ("__debug__" : Str)) = false := by decide) (hcd : (nm == ("__classdict__" : Str)) = false := by decide) (hp : PlainIx ie := by exact fun _ _ => rfl)
    (hbase : attributeBase (.Subscript (.Name nm np) ie sp) "append" X.env (eval (.Subscript (.Name nm np) ie sp) X.env) = eval (.Subscript (.Name nm np) ie sp) X.env := by rfl)
    (hfew : ((backTo cp (starEach [e] X.env)).all (fun x => !x.1) && (backToKw cp (keywordEach [] X.env)).all (fun x => x.1.isSome) && decide ([e].length + ([] : List Keyword).length + (if ([] : List Keyword).isEmpty then 0 else 1) < 30)) = true := by rfl)
    (hline : (ap.endLine == cp.line) = true := by rfl) (hse : starEach [e] X.env = (false, eval e X.env) :: starEach [] X.env := by rfl) (hplain : (backTo cp (starEach [] X.env)).any (·.1) = false := by rfl)
    (hsw : swapsWith (.Call (.Attribute (.Subscript (.Name nm np) ie sp) "append" ap) [e] [] cp) none pos.line X.env = pure false := by rfl) :
    LB X SR envR kr bk ct env (.Expr (.Call (.Attribute (.Subscript (.Name nm np) ie sp) "append" ap) [e] [] cp) pos :: rest) envJ (fun kn => fi fun j p => (ixN xs.length j).bind fun n => f p fun y p2 => ck (decide ((xs.getD n []).length < SZ)) (fr j p y p2 (xs.set n (xs.getD n [] ++ [y])) kn)) :=
  fun C F H σs es σ kn ω D hK hl h hk qn qb qc qr => tSs.of X (pss_cons (ps_expr (pe_bm PySem.F.plainAttrs_list PySem.F.slot_list_append PySem.F.type_list_append mt_append (pe_ix ix_list (pe_var hN hv hd hcd) (peC X) hp) (pa_cons (peC X) pa_nil hse) hbase hfew hline hse hplain) hsw) (pssC X)) (by
    obtain ⟨l, fp, e1', r⟩ := h.lookF hl h0
    refine ⟨l, e1', hi C F H σs es σ _ ω _ hK hl h hk fun j p u F' H' hk' h' => ?_⟩
    have hu : u = .int j := by
      obtain ⟨v', fp, e1, r⟩ := h'.look (i := 0) rfl
      simp at e1; subst e1
      obtain ⟨_, r⟩ := r
      cases r; rfl
    subst hu
    have h3 : ER C F' H' (σs ++ σ) (es ++ e1 p) := h'.pop
    obtain ⟨n, hn, hk'⟩ := bind_some hk'
    obtain ⟨l', fp', e3, r1⟩ := h3.lookF hl (h1 p)
    rw [e1'] at e3; cases e3
    obtain ⟨q1, vs1, fps, rfl, _, _, _⟩ := r1
    obtain ⟨vs, h3p⟩ := h3.pin (i := es.length + i) (q1 := q1) (by rw [at_app _ rfl]; exact h1 p) (by rw [at_app _ hl]; exact e1')
    rw [List.set_append_right _ _ (Nat.le_add_right _ _), Nat.add_sub_cancel_left] at h3p
    have hil : i < (e1 p).length := lt_of_get (h1 p)
    obtain ⟨l5, fp5, e5, r5⟩ := h3p.lookF (i := i) hl (by rw [List.getElem?_set_self hil])
    rw [e1'] at e5; cases e5
    obtain ⟨fps5, _, hq, ra, _⟩ := r5
    have hlen := ra.length
    have hnl : n < xs.length := ixN_lt' hn
    have hx : xs[n]? = some (xs.getD n []) := by rw [List.getElem?_eq_getElem hnl, List.getD_eq_getElem?_getD, List.getElem?_eq_getElem hnl]; rfl
    obtain ⟨fp1, fq, fp2, v, efp, hvn, rv, _⟩ := ra.split hx
    obtain ⟨q2, ws, fps2, rfl, hq2, rw2, rfl⟩ := rv
    refine ⟨q1, vs, j, .ref q2, rfl, rfl, SqL.of hq, by unfold atI; rw [hlen, hn]; exact hvn, .inl ⟨rfl, ws, SqL.of hq2⟩, ?_⟩
    refine he q1 vs p C F' H' σs es σ _ ω _ hK hl h3p hk' fun y p2 v F2 H2 hk2 h4 => ?_
    obtain ⟨hc, hk2⟩ := ck_some hk2
    have hc' := of_decide_eq_true hc
    have ry : Rep C.K F2 v (E.enc y) := by
      obtain ⟨v', fp, e1, r⟩ := h4.look (i := 0) rfl
      simp at e1; subst e1
      exact r.2
    obtain ⟨l2, fp3, e4, r3, nd, ow, fin⟩ := h4.pop.mut (i := es.length + i) (by rw [at_app _ rfl]; exact h2 q1 vs p p2)
    rw [at_app _ hl, e1'] at e4
    cases e4
    obtain ⟨fps3, _, hq3, ra3, rfl⟩ := r3
    obtain ⟨gp1, gq, gp2, v3, egp, hvn3, rv3, put⟩ := ra3.split hx
    rw [hvn] at hvn3; cases hvn3
    obtain ⟨q4, ws4, fps4, e6, hq4, rw4, rfl⟩ := rv3
    cases e6
    subst egp
    obtain ⟨rfl, rp4⟩ := rw4.zero
    have hlen4 : ws4.length = (xs.getD n []).length := by have := rp4.length; simpa using this
    refine ⟨q2, ws4, v, rfl, rfl, hq4, by rw [SZ_eq]; omega, ?_⟩
    have n1 : q1 ≠ q2 := fun z => by
      have := (List.nodup_cons.mp nd).1
      exact this (by rw [z]; simp)
    have nm1 : q2 ∉ gp1 ∧ q2 ∉ gp2 := by
      have := (List.nodup_cons.mp nd).2
      rw [List.nodup_append] at this
      obtain ⟨_, h2, h3⟩ := this
      exact ⟨fun m => h3 q2 m q2 (by simp) rfl, fun m => (List.nodup_cons.mp h2).1 (by simpa using m)⟩
    have fin' := fin (List (List α)) (ls (ls (it E))) (xs.set n (xs.getD n [] ++ [y])) (upd H2 q2 (.lst (ws4 ++ [v]))) (q1 :: (gp1 ++ ([q2] ++ gp2))) (fun a na _ => upd_ne fun z => na (by rw [z]; simp)) (fun a m => ?_) ⟨q1, vs, _, rfl, by rw [upd_ne n1]; exact hq3, put _ [q2] _ (fun fr w y s z => Stor.frame _ (fun a m => upd_ne fun z => by
        rcases s a m with m | m
        · exact nm1.1 (z ▸ m)
        · exact nm1.2 (z ▸ m)) z) ⟨q2, ws4 ++ [v], [], rfl, upd_same, ?_, rfl⟩, rfl⟩ nd (fun a m => ?_)
    · rw [List.set_append_right _ _ (Nat.le_add_right _ _), Nat.add_sub_cancel_left] at fin'
      exact hr q1 vs j p y p2 _ C F2 _ σs es σ kn ω D hK hl fin' hk2 qn qb qc qr
    · by_cases z : a = q2
      · subst z; rw [upd_same]; exact fun z => by cases z
      · rw [upd_ne z]; exact m
    · have := rp4.app (.cons ry .nil)
      have e : (xs.getD n []).map E.enc ++ [E.enc y] = (xs.getD n [] ++ [y]).map E.enc := by simp
      rw [e] at this
      exact this.zero
    · refine ⟨?_, .inl m⟩
      by_cases z : a = q2
      · subst z; rw [upd_same]; exact fun z => by cases z
      · rw [upd_ne z]; exact (ow a m).2.2)
end
end Z

set_option Elab.async false
set_option linter.all false
set_option maxRecDepth 100000
namespace Z
open PySem PySem.Spec PyProof.Rows L2
theorem eLLD {τ : Type} {E : Enc τ} {a : List (List τ)} : (eL (eL eD)).enc (List.map (List.map E.enc) a) = (eL (eL E)).enc a := by simp [eL, eD]
/-! ### comprehensions of two fors, nothing changed -/
theorem wipe_same {σ σ' : List (Option V)} {vs : List Nat} (hl : σ'.length = σ.length) (h : ∀ j : Nat, j ∉ vs → σ'[j]? = σ[j]?) : wipe σ' vs = wipe σ vs := by
  apply List.ext_getElem?
  intro j
  rw [wipe_get, wipe_get]
  by_cases m : j ∈ vs
  · rw [if_pos m, if_pos m, hl]
  · rw [if_neg m, if_neg m, h j m]
theorem wipe_at {σ σ' : List (Option V)} {vs : List Nat} (h : wipe σ' vs = wipe σ vs) {j : Nat} (m : j ∉ vs) : σ'[j]? = σ[j]? := by
  have := congrArg (fun l => l[j]?) h
  simpa only [wipe_get, if_neg m] using this
theorem wipe_len {σ σ' : List (Option V)} {vs : List Nat} (h : wipe σ' vs = wipe σ vs) : σ'.length = σ.length := by
  have := congrArg List.length h
  simpa only [wipe_length] using this
theorem wipe_idem {σ : List (Option V)} {vs : List Nat} : wipe (wipe σ vs) vs = wipe σ vs := wipe_same (wipe_length _ _) fun j m => by rw [wipe_get, if_neg m]
theorem ER.wl {C : Ck} {F H : Hp} {σp σ σ' : List (Option V)} {ep env : Env} {vs : List Nat} (h : ER C F H (σp ++ σ) (ep ++ env)) (hl : σp.length = ep.length) (hu : ∀ (i : Nat) (s : Slot), i ∈ vs → env[i]? = some s → s = Slot.un) (hw : wipe σ' vs = wipe σ vs) : ER C F H (σp ++ σ') (ep ++ env) :=
  h.like hl (wipe_len hw) fun j s e => by
    by_cases m : j ∈ vs
    · exact .inl (hu j s m e)
    · exact .inr (wipe_at hw m)
section
variable {X : Cx} {Ω : Type} {env env0 : Env} {pos : Pos} {elt tg iter tg1 iter1 : Expr} {ifs1 : List Expr} {P P1 P2 P3 : Type} {α β δ : Type} {Sa : Stor α} {Sb : Stor β} {Sd : Stor δ} {e' : P → Env} {scope : Scope} {own : List (Str × Nat)} {ix ix1 : List Nat}
  {envX : α → Env} {e1 : α → P1 → Env} {envY : α → P1 → β → Env} {eT : α → P1 → β → P2 → Env} {eE : α → P1 → β → P2 → P3 → Env}
  {f : (List α → P → Option Ω) → Option Ω} {f1 : α → (List β → P1 → Option Ω) → Option Ω} {ft : α → P1 → β → (Bool → P2 → Option Ω) → Option Ω} {fe : α → P1 → β → P2 → (δ → P3 → Option Ω) → Option Ω}
def lcIn (ft : α → P1 → β → (Bool → P2 → Option Ω) → Option Ω) (fe : α → P1 → β → P2 → (δ → P3 → Option Ω) → Option Ω) (x : α) (p1 : P1) (y : β) (acc : List δ) (kc : List δ → Option Ω) : Option Ω :=
  ft x p1 y fun b p2 => if b = true then fe x p1 y p2 fun z _ => ck (decide (acc.length < SZ)) (kc (acc ++ [z])) else kc acc
def lcOut (f1 : α → (List β → P1 → Option Ω) → Option Ω) (ft : α → P1 → β → (Bool → P2 → Option Ω) → Option Ω) (fe : α → P1 → β → P2 → (δ → P3 → Option Ω) → Option Ω) (x : α) (acc : List δ) (kc : List δ → Option Ω) : Option Ω :=
  f1 x fun ys p1 => forO ys acc (lcIn ft fe x p1) kc
theorem lc2_run (hi : LI X env tg iter Sa e' f) (h0 : ∀ p, Sub (e' p) env0) (hu : ∀ (i : Nat) (s : Slot), i ∈ own.map (·.2) → env0[i]? = some s → s = Slot.un)
    (hsub : ∀ i ∈ ix, i ∈ own.map (·.2)) (hsub1 : ∀ i ∈ ix1, i ∈ own.map (·.2))
    (hg : ∀ Y, Blk X scope Y → LG Y ix env0 tg Sa envX) (hi1 : ∀ Y, Blk X scope Y → ∀ x, LI Y (envX x) tg1 iter1 Sb (e1 x) (f1 x)) (hu1 : ∀ (x : α) (p : P1) (i : Nat) (s : Slot), i ∈ ix1 → (e1 x p)[i]? = some s → s = Slot.un)
    (hg1 : ∀ Y, Blk X scope Y → ∀ x p, LG Y ix1 (e1 x p) tg1 Sb (envY x p)) (ht : ∀ Y, Blk X scope Y → ∀ x p y, LTl Y (envY x p y) ifs1 (eT x p y) (ft x p y)) (he : ∀ Y, Blk X scope Y → ∀ x p y q, LX Y (eT x p y q) elt Sd (eE x p y q) (fe x p y q))
    (hn : ∀ x p y q r, Sub (eE x p y q r) (e1 x p)) (hf : ∀ x p y q, Sub (eT x p y q) (e1 x p)) (hb : ∀ x p, Sub (e1 x p) env0)
    {C : Ck} {F H : Hp} {σs : List (Option V)} {es : Env} {σ : List (Option V)} {k : List δ → Unit → Option Ω} {ω : Ω} {Q : VK} (hK : C.K = X.K) (hl : σs.length = es.length) (h : ER C F H (σs ++ σ) (es ++ env))
    (hk : (f fun xs _ => forO xs [] (lcOut f1 ft fe) fun acc => k acc ()) = some ω)
    (q : ∀ ys v F' H', k ys () = some ω → ER C F' H' (some v :: (σs ++ σ)) (.st none (List δ) (ls Sd) ys :: (es ++ env0)) → Q v H') :
    tLc2 (tI X tg iter) (fun v σ H Q => ∀ Y, Blk X scope Y → tG Y tg v σ H Q) (fun σ H Q => ∀ Y, Blk X scope Y → tTl Y [] σ H Q) (fun σ H R => ∀ Y, Blk X scope Y → tI Y tg1 iter1 σ H R) (fun v σ H Q => ∀ Y, Blk X scope Y → tG Y tg1 v σ H Q) (fun σ H Q => ∀ Y, Blk X scope Y → tTl Y ifs1 σ H Q) (fun σ H Q => ∀ Y, Blk X scope Y → tE Y elt σ H Q) (own.map (·.2)) ix1 σ H Q := by
  refine hi C F H σs es σ _ ω _ hK hl h hk fun xs p J F' H' σx ex hk' h' hy => ?_
  intro D nD
  have hnew : ER C F' (upd H' D (.lst [])) (some (.ref D) :: (σx ++ (σs ++ σ))) (.st none (List δ) (ls Sd) [] :: (ex ++ (es ++ e' p))) := h'.newOw nD ⟨D, [], [], rfl, upd_same, .nil, rfl⟩
  refine ⟨fun i m H2 => m = xs.length - i ∧ i ≤ xs.length ∧ ∃ acc F2, ER C F2 H2 (some (.ref D) :: (σx ++ (σs ++ σ))) (.st none (List δ) (ls Sd) acc :: (ex ++ (es ++ env0))) ∧ forO (xs.drop i) acc (lcOut f1 ft fe) (fun acc => k acc ()) = some ω,
    ⟨xs.length, by simp, Nat.zero_le _, [], F', ER.sub hnew (.keep (((h0 p).pre es).pre ex)), by simpa using hk'⟩, ?_⟩
  rintro i m H2 ⟨rfl, hi', acc, F2, h2, hk2⟩
  obtain ⟨y1, y2⟩ := hy.go i F2 H2 [some (.ref D)] (σs ++ σ) [.st none (List δ) (ls Sd) acc] (es ++ env0) rfl h2
  by_cases hlt : i < xs.length
  rotate_left
  · have e : i = xs.length := by omega
    subst e
    refine .inl ⟨y2 (by simp), q acc (.ref D) F2 H2 (by simpa [forO] using hk2) ?_⟩
    have h3 : ER C F2 H2 (σx ++ some (.ref D) :: (σs ++ σ)) (ex ++ .st none (List δ) (ls Sd) acc :: (es ++ env0)) := ER.unrot h2 hy.len
    exact h3.popN hy.len
  have ex1 : xs[i]? = some xs[i] := List.getElem?_eq_getElem hlt
  obtain ⟨g1, g2⟩ := y1 _ ex1
  have ed : xs.drop i = xs[i] :: xs.drop (i + 1) := List.drop_eq_getElem_cons hlt
  rw [ed] at hk2
  generalize xs[i] = x at ex1 g2 hk2
  refine .inr ⟨g1, fun H3 => ∃ acc F3, ER C F3 H3 (some (.ref D) :: (σx ++ (σs ++ σ))) (.st none (List δ) (ls Sd) acc :: (ex ++ (es ++ env0))) ∧ forO (xs.drop (i + 1)) acc (lcOut f1 ft fe) (fun acc => k acc ()) = some ω,
    fun H3 ⟨acc3, F3, h3, hk3⟩ => ⟨xs.length - (i + 1), by omega, rfl, hlt, acc3, F3, h3, hk3⟩, fun v H3 hv Y bY => ?_⟩
  have YK : C.K = Y.K := by obtain ⟨_, _, _, _, _, rfl⟩ := bY.is; exact hK
  obtain ⟨F3, h3⟩ := g2 v H3 hv
  have lenp : ((some (.ref D) : Option V) :: (σx ++ σs)).length = ((.st none (List δ) (ls Sd) acc : Slot) :: (ex ++ es)).length := by simp [hl, hy.len]
  have h3' : ER C F3 H3 ((some v :: some (.ref D) :: (σx ++ σs)) ++ wipe σ (own.map (·.2))) ((.st none α Sa x :: .st none (List δ) (ls Sd) acc :: (ex ++ es)) ++ env0) :=
    ER.wl (σ := σ) (vs := own.map (·.2)) (by simpa [List.append_assoc] using h3) (by simp [hl, hy.len]) hu wipe_idem
  refine hg Y bY C F3 H3 (some (.ref D) :: (σx ++ σs)) (.st none (List δ) (ls Sd) acc :: (ex ++ es)) (wipe σ (own.map (·.2))) v x _ YK lenp (by simpa [List.append_assoc] using h3') fun σ4 e4 h4 => ?_
  have hw4 : wipe σ4 (own.map (·.2)) = wipe σ (own.map (·.2)) := (wipe_same e4.1 fun j m => e4.2 j fun z => m (hsub j z)).trans wipe_idem
  refine ⟨hw4, fun Y bY => ?_⟩
  refine tTl.of Y pts_nil ?_
  unfold tYes
  refine Eq.mpr (if_pos rfl) ?_
  intro Y bY
  have YK : C.K = Y.K := by obtain ⟨_, _, _, _, _, rfl⟩ := bY.is; exact hK
  refine hi1 Y bY x C F3 H3 (some (.ref D) :: (σx ++ σs)) (.st none (List δ) (ls Sd) acc :: (ex ++ es)) σ4 _ ω _ YK lenp h4 hk2 fun ys p1 J1 F5 H5 σy ey hk5 h5 hy1 => ?_
  have lenq : ∀ a : List δ, (σy ++ (some (.ref D) :: (σx ++ σs)) : List (Option V)).length = (ey ++ ((.st none (List δ) (ls Sd) a : Slot) :: (ex ++ es))).length := fun a => by simp [hl, hy.len, hy1.len]
  refine ⟨fun j m H6 => m = ys.length - j ∧ j ≤ ys.length ∧ ∃ acc F6, ER C F6 H6 (σy ++ ((some (.ref D) :: (σx ++ σs)) ++ σ4)) (ey ++ ((.st none (List δ) (ls Sd) acc :: (ex ++ es)) ++ e1 x p1)) ∧ forO (ys.drop j) acc (lcIn ft fe x p1) (fun acc => forO (xs.drop (i + 1)) acc (lcOut f1 ft fe) fun acc => k acc ()) = some ω,
    ⟨ys.length, by simp, Nat.zero_le _, acc, F5, h5, by simpa using hk5⟩, ?_⟩
  rintro j m H6 ⟨rfl, hj', acc, F6, h6, hk6⟩
  obtain ⟨z1, z2⟩ := hy1.go j F6 H6 [] _ [] _ rfl h6
  by_cases hlt1 : j < ys.length
  rotate_left
  · have e : j = ys.length := by omega
    subst e
    refine .inl ⟨z2 (by simp), acc, F6, ?_, by simpa [forO] using hk6⟩
    have h7 : ER C F6 H6 ((some (.ref D) :: (σx ++ σs)) ++ σ4) ((.st none (List δ) (ls Sd) acc :: (ex ++ es)) ++ env0) := (h6.popN hy1.len).subF (hb x p1)
    have h8 := ER.wl (σ' := σ) h7 (by simp [hl, hy.len]) hu hw4.symm
    simpa [List.append_assoc] using h8
  have ey1 : ys[j]? = some ys[j] := List.getElem?_eq_getElem hlt1
  obtain ⟨w1, w2⟩ := z1 _ ey1
  have ed1 : ys.drop j = ys[j] :: ys.drop (j + 1) := List.drop_eq_getElem_cons hlt1
  rw [ed1] at hk6
  generalize ys[j] = y at ey1 w2 hk6
  refine .inr ⟨w1, fun H7 => ∃ acc F7, ER C F7 H7 (σy ++ ((some (.ref D) :: (σx ++ σs)) ++ σ4)) (ey ++ ((.st none (List δ) (ls Sd) acc :: (ex ++ es)) ++ e1 x p1)) ∧ forO (ys.drop (j + 1)) acc (lcIn ft fe x p1) (fun acc => forO (xs.drop (i + 1)) acc (lcOut f1 ft fe) fun acc => k acc ()) = some ω,
    fun H7 ⟨acc7, F7, h7, hk7⟩ => ⟨ys.length - (j + 1), by omega, rfl, hlt1, acc7, F7, h7, hk7⟩, fun v7 H7 hv7 Y bY => ?_⟩
  have YK : C.K = Y.K := by obtain ⟨_, _, _, _, _, rfl⟩ := bY.is; exact hK
  obtain ⟨F7, h7⟩ := w2 v7 H7 hv7
  have h7' : ER C F7 H7 ((some v7 :: (σy ++ (some (.ref D) :: (σx ++ σs)))) ++ wipe σ4 ix1) ((.st none β Sb y :: (ey ++ (.st none (List δ) (ls Sd) acc :: (ex ++ es)))) ++ e1 x p1) :=
    ER.wl (σ := σ4) (vs := ix1) (by simpa [List.append_assoc] using h7) (by have := lenq acc; simp at this ⊢; omega) (hu1 x p1) wipe_idem
  refine hg1 Y bY x p1 C F7 H7 (σy ++ (some (.ref D) :: (σx ++ σs))) (ey ++ (.st none (List δ) (ls Sd) acc :: (ex ++ es))) (wipe σ4 ix1) v7 y _ YK (lenq acc) (by simpa [List.append_assoc] using h7') fun σ5 e5 h8 => ?_
  have hw5 : wipe σ5 ix1 = wipe σ4 ix1 := (wipe_same e5.1 fun j m => e5.2 j m).trans wipe_idem
  refine ⟨hw5, fun Y bY => ?_⟩
  have YK : C.K = Y.K := by obtain ⟨_, _, _, _, _, rfl⟩ := bY.is; exact hK
  refine ht Y bY x p1 y C F7 H7 (σy ++ (some (.ref D) :: (σx ++ σs))) (ey ++ (.st none (List δ) (ls Sd) acc :: (ex ++ es))) σ5 _ ω _ YK (lenq acc) h8 hk6 fun bb p2 F8 H8 hk8 h9 => ?_
  cases bb with
  | false =>
    rw [if_neg Bool.false_ne_true] at hk8 ⊢
    have h10 := h9.subF (hf x p1 y p2)
    have h11 := ER.wl (σ' := σ4) h10 (lenq acc) (hu1 x p1) hw5.symm
    exact ⟨acc, F8, by simpa [List.append_assoc] using h11, hk8⟩
  | true =>
    rw [if_pos rfl] at hk8 ⊢
    intro Y bY
    have YK : C.K = Y.K := by obtain ⟨_, _, _, _, _, rfl⟩ := bY.is; exact hK
    refine he Y bY x p1 y p2 C F8 H8 (σy ++ (some (.ref D) :: (σx ++ σs))) (ey ++ (.st none (List δ) (ls Sd) acc :: (ex ++ es))) σ5 _ ω _ YK (lenq acc) h9 hk8 fun z p3 u F9 H9 hk9 h10 => ?_
    have h11 : ER C F9 H9 (some u :: (σy ++ (some (.ref D) :: (σx ++ (σs ++ σ5))))) (.st none δ Sd z :: (ey ++ (.st none (List δ) (ls Sd) acc :: (ex ++ (es ++ eE x p1 y p2 p3))))) := by simpa [List.append_assoc] using h10
    obtain ⟨hc, hk9⟩ := ck_some hk9
    obtain ⟨v', fp', v0, fq, a2, a3, r1, r2, nd, ow, fin⟩ := h11.absorb (i := ey.length) (w := none) (τ := List δ) (S := ls Sd) (x := acc) (by rw [List.getElem?_append_right (Nat.le_refl _)]; simp)
    rw [← hy1.len, List.getElem?_append_right (Nat.le_refl _), Nat.sub_self] at a2
    simp at a2 a3; subst a2; subst a3
    obtain ⟨q1, vs, fps, e4', hq, ra, rfl⟩ := r1
    cases e4'
    have hlen := ra.length
    have hc' := of_decide_eq_true hc
    refine ⟨vs, hq, by rw [SZ_eq]; omega, acc ++ [z], F9, ?_, hk9⟩
    have nm : D ∉ fps ++ fq := by
      have : (D :: (fps ++ fq)).Nodup := by simpa using nd
      exact (List.nodup_cons.mp this).1
    have fin' := fin (List δ) (ls Sd) (acc ++ [z]) (upd H9 D (.lst (vs ++ [u]))) (D :: (fps ++ fq)) (fun a na _ => upd_ne fun z => na (by rw [z]; simp)) (fun a m => by
      by_cases z : a = D
      · subst z; rw [upd_same]; exact fun z => by cases z
      · rw [upd_ne z]; exact m) ⟨D, vs ++ [u], fps ++ fq, rfl, upd_same, RelAll.imp (fun fr' v' x' s q => Sd.frame (fun a m => upd_ne fun z => nm (z ▸ s a m)) q) (ra.app r2), rfl⟩ (by simpa using nd) (fun a m => by
      refine ⟨?_, .inl (by simpa using m)⟩
      by_cases z : a = D
      · subst z; rw [upd_same]; exact fun z => by cases z
      · rw [upd_ne z]; exact (ow a (by simpa using m)).2.2)
    rw [List.set_append_right _ _ (Nat.le_refl _), Nat.sub_self, List.set_cons_zero] at fin'
    have h12 : ER C F9 (upd H9 D (.lst (vs ++ [u]))) ((σy ++ (some (.ref D) :: (σx ++ σs))) ++ σ5) ((ey ++ (.st none (List δ) (ls Sd) (acc ++ [z]) :: (ex ++ es))) ++ eE x p1 y p2 p3) := by simpa [List.append_assoc] using fin'
    have h13 := h12.subF (hn x p1 y p2 p3)
    have h14 := ER.wl (σ' := σ4) h13 (lenq _) (hu1 x p1) hw5.symm
    simpa [List.append_assoc] using h14
/-- [.. for .. in .. for .. in .. if ..] -/
theorem lx_lc2 (hc : X.calm = true) (hN : X.N.Nodup) (ok : BlkOk X.N X.env.scope scope own) (hi : LI X env tg iter Sa e' f) (env0 : Env) (h0 : ∀ p, Sub (e' p) env0) (hu : ∀ (i : Nat) (s : Slot), i ∈ own.map (·.2) → env0[i]? = some s → s = Slot.un)
    (hg : ∀ (s : Shared) (H : Hp) (C : Addr) (cl : List (Str × Addr)) (fp : List Addr), LG (X.blk s H scope (compEnvC scope cl C X.env) fp) ix env0 tg Sa envX) (hi1 : ∀ (s : Shared) (H : Hp) (C : Addr) (cl : List (Str × Addr)) (fp : List Addr) x, LI (X.blk s H scope (compEnvC scope cl C X.env) fp) (envX x) tg1 iter1 Sb (e1 x) (f1 x))
    (hg1 : ∀ (s : Shared) (H : Hp) (C : Addr) (cl : List (Str × Addr)) (fp : List Addr) x p, LG (X.blk s H scope (compEnvC scope cl C X.env) fp) ix1 (e1 x p) tg1 Sb (envY x p)) (ht : ∀ (s : Shared) (H : Hp) (C : Addr) (cl : List (Str × Addr)) (fp : List Addr) x p y, LTl (X.blk s H scope (compEnvC scope cl C X.env) fp) (envY x p y) ifs1 (eT x p y) (ft x p y)) (he : ∀ (s : Shared) (H : Hp) (C : Addr) (cl : List (Str × Addr)) (fp : List Addr) x p y q, LX (X.blk s H scope (compEnvC scope cl C X.env) fp) (eT x p y q) elt Sd (eE x p y q) (fe x p y q))
    (hu1 : ∀ (x : α) (p : P1) (i : Nat) (s : Slot), i ∈ ix1 → (e1 x p)[i]? = some s → s = Slot.un) (hn : ∀ x p y q r, Sub (eE x p y q r) (e1 x p)) (hf : ∀ x p y q, Sub (eT x p y q) (e1 x p)) (hb : ∀ x p, Sub (e1 x p) env0)
    (hsub : ∀ i ∈ ix, i ∈ own.map (·.2) := by decide) (hsub1 : ∀ i ∈ ix1, i ∈ own.map (·.2) := by decide)
    (hs : ∀ x, foldedSetIterable iter X.env x = pure x := by intro _; rfl) (hs1 : ∀ (e : PySem.Env) (x : Value), foldedSetIterable iter1 e x = pure x := by intro _ _; rfl) :
    LX X env (.ListComp elt [⟨tg, iter, [], 0⟩, ⟨tg1, iter1, ifs1, 0⟩] scope pos) (ls Sd) (fun _ : Unit => env0) (fun k => f fun xs _ => forO xs [] (lcOut f1 ft fe) fun acc => k acc ()) :=
  fun C F H σs es σ k ω Q hK hl h hk q => tE.of X (pe_lc2 hc hN (piC X) ok hsub1
      (fun s H C cl fp => ⟨fun pins s' σ H' v u Q I r h => h _ ⟨s, H, C, cl, fp, rfl⟩ pins s' u I r⟩) (fun s H C cl fp => ⟨fun pins s' σ H' Q I h => h _ ⟨s, H, C, cl, fp, rfl⟩ pins s' I⟩)
      (fun s H C cl fp => ⟨fun pins s' σ H' R I h => h _ ⟨s, H, C, cl, fp, rfl⟩ pins s' I⟩) (fun s H C cl fp => ⟨fun pins s' σ H' v u Q I r h => h _ ⟨s, H, C, cl, fp, rfl⟩ pins s' u I r⟩) (fun s H C cl fp => ⟨fun pins s' σ H' Q I h => h _ ⟨s, H, C, cl, fp, rfl⟩ pins s' I⟩) (fun s H C cl fp => ⟨fun pins s' σ H' Q I h => h _ ⟨s, H, C, cl, fp, rfl⟩ pins s' I⟩) hs hs1)
    (lc2_run hi h0 hu hsub hsub1 (fun Y bY => by obtain ⟨s, H, C, cl, fp, rfl⟩ := bY.is; exact hg s H C cl fp) (fun Y bY => by obtain ⟨s, H, C, cl, fp, rfl⟩ := bY.is; exact hi1 s H C cl fp) hu1 (fun Y bY => by obtain ⟨s, H, C, cl, fp, rfl⟩ := bY.is; exact hg1 s H C cl fp) (fun Y bY => by obtain ⟨s, H, C, cl, fp, rfl⟩ := bY.is; exact ht s H C cl fp) (fun Y bY => by obtain ⟨s, H, C, cl, fp, rfl⟩ := bY.is; exact he s H C cl fp) hn hf hb hK hl h hk (fun ys v F' H' hk' h' => q ys () v F' H' hk' h'))
end
section
variable {X : Cx} {Ω : Type} {env : Env} {nm : Str} {pos : Pos} {a b e tg : Expr} {xs tgs : List Expr} {P P1 P2 A : Type} {τ τ1 τ2 α β : Type} {S : Stor τ} {S1 : Stor τ1} {S2 : Stor τ2} {E : Enc τ} {E1 : Enc τ1} {E2 : Enc τ2} {ix : List Nat} {e' : P → Env} {e1 : P1 → Env} {e2 : P1 → P2 → Env}
/-- a walk over a tuple of one kind -/
theorem li_tup {g : τ → List α} {Ea : Enc α} {f : (τ → P → Option Ω) → Option Ω} (hv : TVw S (it Ea) g) (h : LX X env e S e' f) : LI X env tg e (it Ea) e' (fun k => f fun x p => k (g x) p) :=
  fun C F H σs es σ k ω R hK hl hr hk q => tI.of X (pi_tup (peC X)) (h C F H σs es σ _ ω _ hK hl hr hk fun x p v F' H' hk' h' => by
    obtain ⟨v', fp, e1, r⟩ := h'.look (i := 0) rfl
    simp at e1; subst e1
    obtain ⟨p0, vs, fps, rfl, hs, ra⟩ := hv.view h'.sF r
    refine ⟨p0, rfl, ⟨vs, by rw [← hK]; exact hs⟩, q (g x) p (Itt X.K p0) F' H' [some (.ref p0)] [.st none τ S x] hk' h' ⟨rfl, fun i F2 H2 σ2 σb e2 eb hl2 h2 => ?_⟩⟩
    obtain ⟨v', fp', e1, r'⟩ := h2.look (i := e2.length + 0) (by rw [at_app _ rfl]; rfl)
    rw [at_app _ hl2] at e1
    simp at e1; subst e1
    obtain ⟨p1, ws, fps', e3, hs', ra'⟩ := hv.view h2.sF r'
    cases e3
    rw [hK] at hs'
    have rp := ra'.zero.2
    refine ⟨fun y hy => ?_, fun hn => ?_⟩
    · obtain ⟨w, hw, rw'⟩ := rp.get (i := i) (d := Ea.enc y) (by rw [List.getElem?_map, hy]; rfl)
      refine ⟨⟨ws, w, hs', hw⟩, fun v H' hy' => ⟨F2, ?_⟩⟩
      obtain ⟨e4, hy'⟩ := hy'
      have := hy' ws hs'
      rw [hw] at this; cases this
      rw [e4]
      exact h2.pushSh rw'
    · refine ⟨ws, hs', ?_⟩
      have := rp.length
      simp at this
      have := List.getElem?_eq_none_iff.mp hn
      omega)
end
section
variable {X : Cx} {Ω : Type} {env : Env} {nm : Str} {pos : Pos} {a b c e : Expr} {xs rest : List Expr} {P P1 P2 P3 A : Type} {τ τ1 τ2 α β : Type} {S : Stor τ} {S1 : Stor τ1} {S2 : Stor τ2} {E : Enc τ} {E1 : Enc τ1} {E2 : Enc τ2}
/-- a if c else b, whose branches change things: what is left is told by j -/
theorem lx_ifJ {Pj : Type} (envJ : Pj → Env) {e2 : P1 → P2 → Env} {e3 : P1 → P3 → Env} {fc : (Bool → P1 → Option Ω) → Option Ω} {fa : P1 → (τ → P2 → Option Ω) → Option Ω} {fb : P1 → (τ → P3 → Option Ω) → Option Ω} (hc : LT X env c e1 fc) (ha : ∀ p1, LX X (e1 p1) a S (e2 p1) (fa p1)) (hb : ∀ p1, LX X (e1 p1) b S (e3 p1) (fb p1))
    (ja : P1 → P2 → Pj) (jb : P1 → P3 → Pj) (hs : ∀ p1 p2, Sub (e2 p1 p2) (envJ (ja p1 p2))) (hs3 : ∀ p1 p3, Sub (e3 p1 p3) (envJ (jb p1 p3))) :
    LX X env (.IfExp c a b pos) S envJ (fun k => fc fun x p1 => if x = true then fa p1 fun y p2 => k y (ja p1 p2) else fb p1 fun y p3 => k y (jb p1 p3)) :=
  fun C F H σs es σ k ω Q hK hl hr hk q => tE.of X (pe_ifExp (ptC X) (peC X) (peC X)) (hc C F H σs es σ _ ω _ hK hl hr hk fun x p1 F' H' hk' h' => by
    cases x with
    | true => rw [if_pos rfl] at hk' ⊢; exact ha p1 C F' H' σs es σ _ ω Q hK hl h' hk' fun y p2 u F2 H2 hk2 h2 => q y (ja p1 p2) u F2 H2 hk2 (ER.sub h2 (.keep ((hs p1 p2).pre es)))
    | false => rw [if_neg Bool.false_ne_true] at hk' ⊢; exact hb p1 C F' H' σs es σ _ ω Q hK hl h' hk' fun y p3 u F2 H2 hk2 h2 => q y (jb p1 p3) u F2 H2 hk2 (ER.sub h2 (.keep ((hs3 p1 p3).pre es))))
end
end Z

set_option Elab.async false
set_option linter.all false
set_option maxRecDepth 100000
namespace Z
open PySem PySem.Spec PyProof.Rows L2
/-! ### x[i][j] of a list of own lists -/
theorem ER.unpin {α : Type} {C : Ck} {F H : Hp} {σ : List (Option V)} {env : Env} {w : Option V} {Sa : Stor α} {xs : List α} {i : Nat} {q : Addr} {vs : List V} (h : ER C F H σ env) (e : env[i]? = some (.st w (List α) (pinL Sa q vs) xs)) : ER C F H σ (env.set i (.st w (List α) (ls Sa) xs)) := by
  obtain ⟨v, fp, e1, r, nd, ow, fin⟩ := h.mut e
  obtain ⟨fps, rfl, hq, ra, rfl⟩ := r
  exact fin (List α) (ls Sa) xs H (q :: fps) (fun _ _ _ => rfl) (fun _ m => m) ⟨q, vs, fps, rfl, hq, ra, rfl⟩ nd fun a m => ⟨(ow a m).2.2, .inl m⟩
section
variable {X : Cx} {R I Ω : Type} {SR : Stor R} {envR : I → Env} {kr : R → I → Option Ω} {bk ct : Lp Ω} {env : Env} {nm : Str} {pos sp np : Pos} {e ie je : Expr} {rest : List Stmt} {P0 P1 P2 α : Type} {E : Enc α} {J : Type} {envJ : J → Env}
theorem lx_ixM {fi : (Int → P1 → Option Ω) → Option Ω} {fj : P1 → (Int → P2 → Option Ω) → Option Ω} {e1 : P1 → Env} {e2 : Addr → List V → P1 → P2 → Env} {w : Option V} {xs : List (List α)} (i : Nat) (h0 : env[i]? = some (.st w (List (List α)) (ls (ls (it E))) xs))
    (hi : LX X env ie (it eI) e1 fi) (h1 : ∀ p, (e1 p)[i]? = some (.st w (List (List α)) (ls (ls (it E))) xs)) (hj : ∀ q vs p, LX X ((e1 p).set i (.st w (List (List α)) (pinL (ls (it E)) q vs) xs)) je (it eI) (e2 q vs p) (fj p)) (h2 : ∀ q vs p p2, e2 q vs p p2 = (e1 p).set i (.st w (List (List α)) (pinL (ls (it E)) q vs) xs))
    (hN : X.N[i]? = some nm := by rfl) (hv : Vis X.env.scope nm := by first | exact Or.inl rfl | exact Or.inr (Or.inl rfl) | exact Or.inr (Or.inr rfl))
    (hd : (nm == ("__debug__" : Str)) = false := by decide) (hcd : (nm == ("__classdict__" : Str)) = false := by decide) (hp : PlainIx ie := by exact fun _ _ => rfl) (hp2 : PlainIx je := by exact fun _ _ => rfl) :
    LX X env (.Subscript (.Subscript (.Name nm np) ie sp) je pos) (it E) e1 (fun k => fi fun a p => (ixN xs.length a).bind fun n => fj p fun b _ => (atI (xs.getD n []) b).bind fun y => k y p) :=
  fun C F H σs es σ k ω Q hK hl h hk q => tE.of X (pe_ix ix_list (pe_ix ix_list (pe_var hN hv hd hcd) (peC X) hp) (peC X) hp2) (by
    obtain ⟨l, fp, e1', r⟩ := h.lookF hl h0
    refine ⟨l, e1', hi C F H σs es σ _ ω _ hK hl h hk fun j p u F' H' hk' h' => ?_⟩
    have hu : u = .int j := by
      obtain ⟨v', fp, e1, r⟩ := h'.look (i := 0) rfl
      simp at e1; subst e1
      obtain ⟨_, r⟩ := r
      cases r; rfl
    subst hu
    have h3 : ER C F' H' (σs ++ σ) (es ++ e1 p) := h'.pop
    obtain ⟨n, hn, hk'⟩ := bind_some hk'
    obtain ⟨l', fp', e3, r1⟩ := h3.lookF hl (h1 p)
    rw [e1'] at e3; cases e3
    obtain ⟨q1, vs1, fps, rfl, _, _, _⟩ := r1
    obtain ⟨vs, h3p⟩ := h3.pin (i := es.length + i) (q1 := q1) (by rw [at_app _ rfl]; exact h1 p) (by rw [at_app _ hl]; exact e1')
    rw [List.set_append_right _ _ (Nat.le_add_right _ _), Nat.add_sub_cancel_left] at h3p
    have hil : i < (e1 p).length := lt_of_get (h1 p)
    obtain ⟨l5, fp5, e5, r5⟩ := h3p.lookF (i := i) hl (by rw [List.getElem?_set_self hil])
    rw [e1'] at e5; cases e5
    obtain ⟨fps5, _, hq, ra, _⟩ := r5
    have hlen := ra.length
    have hnl : n < xs.length := ixN_lt' hn
    have hx : xs[n]? = some (xs.getD n []) := by rw [List.getElem?_eq_getElem hnl, List.getD_eq_getElem?_getD, List.getElem?_eq_getElem hnl]; rfl
    obtain ⟨fp1, fq, fp2, v, efp, hvn, rv, _⟩ := ra.split hx
    obtain ⟨q2, ws, fps2, rfl, hq2, rw2, rfl⟩ := rv
    refine ⟨q1, vs, j, .ref q2, rfl, rfl, SqL.of hq, by unfold atI; rw [hlen, hn]; exact hvn, ?_⟩
    refine hj q1 vs p C F' H' σs es σ _ ω _ hK hl h3p hk' fun b p2 v F2 H2 hk2 h4 => ?_
    obtain ⟨y, hy, hk2⟩ := bind_some hk2
    have hv2 : v = .int b := by
      obtain ⟨v', fp, e1, r⟩ := h4.look (i := 0) rfl
      simp at e1; subst e1
      obtain ⟨_, r⟩ := r
      cases r; rfl
    subst hv2
    have h5 : ER C F2 H2 (σs ++ σ) (es ++ (e1 p).set i (.st w (List (List α)) (pinL (ls (it E)) q1 vs) xs)) := by have := h4.pop; rw [h2 q1 vs p p2] at this; exact this
    obtain ⟨l6, fp6, e6, r6⟩ := h5.lookF (i := i) hl (by rw [List.getElem?_set_self hil])
    rw [e1'] at e6; cases e6
    obtain ⟨fps6, _, hq6, ra6, _⟩ := r6
    obtain ⟨gp1, gq, gp2, v6, egp, hvn6, rv6, _⟩ := ra6.split hx
    rw [hvn] at hvn6; cases hvn6
    obtain ⟨q4, ws4, fps4, e7, hq4, rw4, rfl⟩ := rv6
    cases e7
    obtain ⟨w', hw', rw'⟩ := rw4.zero.2.at hy
    have h6 : ER C F2 H2 (σs ++ σ) (es ++ e1 p) := by
      have := h5.unpin (i := es.length + i) (by rw [at_app _ rfl, List.getElem?_set_self hil])
      rw [List.set_append_right _ _ (Nat.le_add_right _ _), Nat.add_sub_cancel_left, List.set_set] at this
      have e8 : (e1 p).set i (.st w (List (List α)) (ls (ls (it E))) xs) = e1 p := by
        refine List.ext_getElem? fun m => ?_
        rw [List.getElem?_set]
        split
        · rename_i z; subst z; exact (h1 p).symm
        · rfl
      rw [e8] at this; exact this
    exact ⟨q2, ws4, b, w', rfl, rfl, by rw [← hK]; exact SqL.of hq4, hw', q y p w' F2 H2 hk2 (h6.pushSh rw')⟩)
/-- x[i][j] = e, x a list of own lists -/
theorem lb_setIx2 {f : (α → P0 → Option Ω) → Option Ω} {fi : α → P0 → (Int → P1 → Option Ω) → Option Ω} {fj : α → P0 → P1 → (Int → P2 → Option Ω) → Option Ω} {fr : α → P0 → Int → P1 → Int → P2 → List (List α) → (J → Option Ω) → Option Ω} {e0 : P0 → Env} {e1 : α → P0 → P1 → Env} {e2 : Addr → List V → α → P0 → P1 → P2 → Env} {w : Option V} {xs : α → P0 → P1 → List (List α)} {x0 : P0 → List (List α)} (i : Nat)
    (he : LX X env e (it E) e0 f) (h0 : ∀ p, (e0 p)[i]? = some (.st w (List (List α)) (ls (ls (it E))) (x0 p))) (hi : ∀ y p, LX X (e0 p) ie (it eI) (e1 y p) (fi y p)) (h1 : ∀ y p p1, (e1 y p p1)[i]? = some (.st w (List (List α)) (ls (ls (it E))) (xs y p p1)))
    (hj : ∀ q vs y p p1, LX X ((e1 y p p1).set i (.st w (List (List α)) (pinL (ls (it E)) q vs) (xs y p p1))) je (it eI) (e2 q vs y p p1) (fj y p p1)) (h2 : ∀ q vs y p p1 p2, (e2 q vs y p p1 p2)[i]? = some (.st w (List (List α)) (pinL (ls (it E)) q vs) (xs y p p1)))
    (hr : ∀ q vs y p a p1 b p2 zs, LB X SR envR kr bk ct ((e2 q vs y p p1 p2).set i (.st w (List (List α)) (ls (ls (it E))) zs)) rest envJ (fr y p a p1 b p2 zs))
    (hN : X.N[i]? = some nm := by rfl) (hv : Vis X.env.scope nm := by first | exact Or.inl rfl | exact Or.inr (Or.inl rfl) | exact Or.inr (Or.inr rfl))
    (hd : (nm == ("__debug__" : Str)) = false := by decide) (hcd : (nm == ("__classdict__" : Str)) = false := by decide) (hp : PlainIx ie := by exact fun _ _ => rfl)
    (ha2 : ∀ v, assign (.Subscript (.Subscript (.Name nm np) ie sp) je pos) X.env v = (do
      let ov ← holding [v] (eval (.Subscript (.Name nm np) ie sp) X.env)
      let iv ← holding [v, ov] (eval je X.env)
      standAt pos
      holding [v, ov, iv] (setItem ov iv v)
      release [v, ov, iv] []) := by intro _; rfl)
    {spos : Pos} (hs : swapsWithSole [.Subscript (.Subscript (.Name nm np) ie sp) je pos] e spos.line X.env = pure false := by rfl) (hw : swappedStores [.Subscript (.Subscript (.Name nm np) ie sp) je pos] e X.env = pure none := by rfl) (ha1 : (assignEach [.Subscript (.Subscript (.Name nm np) ie sp) je pos] X.env).map (·.2) = [assign (.Subscript (.Subscript (.Name nm np) ie sp) je pos) X.env] := by rfl) :
    LB X SR envR kr bk ct env (.Assign [.Subscript (.Subscript (.Name nm np) ie sp) je pos] e spos :: rest) envJ (fun kn => f fun y p => fi y p fun a p1 => (ixN (xs y p p1).length a).bind fun n => fj y p p1 fun b p2 => (ixN ((xs y p p1).getD n []).length b).bind fun m => fr y p a p1 b p2 ((xs y p p1).set n (((xs y p p1).getD n []).set m y)) kn) :=
  fun C F H σs es σ kn ω D hK hl h hk qn qb qc qr => tSs.of X (pss_cons (ps_asg (peC X) (pg_sub (pe_ix ix_list (pe_var hN hv hd hcd) (peC X) hp) (peC X) set_list ha2) hs hw ha1) (pssC X)) (he C F H σs es σ _ ω _ hK hl h hk fun y p v F' H' hk' h' => by
    obtain ⟨l, fp, e3, r⟩ := h'.pop.lookF hl (h0 p)
    refine ⟨l, e3, hi y p C F' H' (some v :: σs) (.st none α (it E) y :: es) σ _ ω _ hK (by simp [hl]) h' hk' fun a p1 u F2 H2 hk2 h3 => ?_⟩
    obtain ⟨n, hn, hk2⟩ := bind_some hk2
    have hu : u = .int a := by
      obtain ⟨v', fp, e1, r⟩ := h3.look (i := 0) rfl
      simp at e1; subst e1
      obtain ⟨_, r⟩ := r
      cases r; rfl
    subst hu
    have h4 : ER C F2 H2 ((some v :: σs) ++ σ) ((.st none α (it E) y :: es) ++ e1 y p p1) := h3.pop
    obtain ⟨l', fp', e4, r1⟩ := h4.lookF (i := i) (by simp [hl]) (h1 y p p1)
    rw [e3] at e4; cases e4
    obtain ⟨q1, vs1, fps, rfl, _, _, _⟩ := r1
    obtain ⟨vs, h4p⟩ := h4.pin (i := (.st none α (it E) y :: es : Env).length + i) (q1 := q1) (by rw [at_app _ rfl]; exact h1 y p p1) (by rw [at_app _ (by simp [hl])]; exact e3)
    rw [List.set_append_right _ _ (Nat.le_add_right _ _), Nat.add_sub_cancel_left] at h4p
    have hil : i < (e1 y p p1).length := lt_of_get (h1 y p p1)
    obtain ⟨l5, fp5, e5, r5⟩ := h4p.lookF (i := i) (by simp [hl]) (by rw [List.getElem?_set_self hil])
    rw [e3] at e5; cases e5
    obtain ⟨fps5, _, hq, ra, _⟩ := r5
    have hlen := ra.length
    have hnl : n < (xs y p p1).length := ixN_lt' hn
    have hx : (xs y p p1)[n]? = some ((xs y p p1).getD n []) := by rw [List.getElem?_eq_getElem hnl, List.getD_eq_getElem?_getD, List.getElem?_eq_getElem hnl]; rfl
    obtain ⟨fp1, fq, fp2, v5, efp, hvn, rv, _⟩ := ra.split hx
    obtain ⟨q2, ws, fps2, rfl, hq2, rw2, rfl⟩ := rv
    refine ⟨q1, vs, a, .ref q2, rfl, rfl, SqL.of hq, by unfold atI; rw [hlen, hn]; exact hvn, ?_⟩
    refine hj q1 vs y p p1 C F2 H2 (some v :: σs) (.st none α (it E) y :: es) σ _ ω _ hK (by simp [hl]) h4p hk2 fun b p2 v6 F3 H3 hk3 h5 => ?_
    obtain ⟨m, hm, hk3⟩ := bind_some hk3
    have hv6 : v6 = .int b := by
      obtain ⟨v', fp, e1, r⟩ := h5.look (i := 0) rfl
      simp at e1; subst e1
      obtain ⟨_, r⟩ := r
      cases r; rfl
    subst hv6
    have ry : Rep C.K F3 v (E.enc y) := by
      obtain ⟨v', fp, e1, r⟩ := h5.look (i := 1) rfl
      simp at e1; subst e1
      exact r.2
    have h6 : ER C F3 H3 (σs ++ σ) (es ++ e2 q1 vs y p p1 p2) := h5.pop.pop
    obtain ⟨l2, fp3, e6, r3, nd, ow, fin⟩ := h6.mut (i := es.length + i) (by rw [at_app _ rfl]; exact h2 q1 vs y p p1 p2)
    rw [at_app _ hl, e3] at e6
    cases e6
    obtain ⟨fps3, _, hq3, ra3, rfl⟩ := r3
    obtain ⟨gp1, gq, gp2, v3, egp, hvn3, rv3, put⟩ := ra3.split hx
    rw [hvn] at hvn3; cases hvn3
    obtain ⟨q4, ws4, fps4, e7, hq4, rw4, rfl⟩ := rv3
    cases e7
    subst egp
    obtain ⟨rfl, rp4⟩ := rw4.zero
    have hlen4 : ws4.length = ((xs y p p1).getD n []).length := by have := rp4.length; simpa using this
    refine ⟨q2, ws4, b, m, rfl, rfl, hq4, by rw [hlen4]; exact hm, ?_⟩
    have n1 : q1 ≠ q2 := fun z => by
      have := (List.nodup_cons.mp nd).1
      exact this (by rw [z]; simp)
    have nm1 : q2 ∉ gp1 ∧ q2 ∉ gp2 := by
      have := (List.nodup_cons.mp nd).2
      rw [List.nodup_append] at this
      obtain ⟨_, h2, h3⟩ := this
      exact ⟨fun m => h3 q2 m q2 (by simp) rfl, fun m => (List.nodup_cons.mp h2).1 (by simpa using m)⟩
    have fin' := fin (List (List α)) (ls (ls (it E))) ((xs y p p1).set n (((xs y p p1).getD n []).set m y)) (upd H3 q2 (.lst (ws4.set m v))) (q1 :: (gp1 ++ ([q2] ++ gp2))) (fun a na _ => upd_ne fun z => na (by rw [z]; simp)) (fun a m => ?_) ⟨q1, vs, _, rfl, by rw [upd_ne n1]; exact hq3, put _ [q2] _ (fun fr w y s z => Stor.frame _ (fun a m => upd_ne fun z => by
        rcases s a m with m | m
        · exact nm1.1 (z ▸ m)
        · exact nm1.2 (z ▸ m)) z) ⟨q2, ws4.set m v, [], rfl, upd_same, ?_, rfl⟩, rfl⟩ nd (fun a m => ?_)
    · rw [List.set_append_right _ _ (Nat.le_add_right _ _), Nat.add_sub_cancel_left] at fin'
      exact hr q1 vs y p a p1 b p2 _ C F3 _ σs es σ kn ω D hK hl fin' hk3 qn qb qc qr
    · by_cases z : a = q2
      · subst z; rw [upd_same]; exact fun z => by cases z
      · rw [upd_ne z]; exact m
    · have := rp4.set ry (i := m)
      rw [← List.map_set] at this
      exact this.zero
    · refine ⟨?_, .inl m⟩
      by_cases z : a = q2
      · subst z; rw [upd_same]; exact fun z => by cases z
      · rw [upd_ne z]; exact (ow a m).2.2)
end
end Z

set_option Elab.async false
set_option linter.all false
set_option maxRecDepth 100000
namespace Z
open PySem PySem.Spec PyProof.Rows L2
/-! ### lending: a def reads its first argument's object, and gives back nothing of it -/
def spL (K : Fg) {A T R : Type} (ST : Stor T) (sl : A → Env) (SR : Stor R) (m : T → A → Option R) : Sp := fun vs H Q _ => ∃ (B F : Hp) (t : T) (a : A) (r : R) (v0 : V) (vs' : List V), vs = v0 :: vs' ∧ m t a = some r ∧ (vs'.map some).length = (sl a).length ∧
  ER ⟨K, B, F, H, []⟩ F H (vs.map some) (.lk T ST t :: sl a) ∧ ∀ F' H' v, ER ⟨K, B, F, H, []⟩ F' H' [some v] [.st none R SR r] → Q v H'
section
variable {P : Program} {w : World} {K : Fg} {mg : Str → Option Value} {base : Heap}
theorem fnL {x qual : Str} {st : Stmt} {f : Addr} {fd : FuncData} {N ps : List Str} {k : Nat} {A T R : Type} {ST : Stor T} {sl : A → Env} {SR : Stor R} {m : T → A → Option R} (F : Fun K x qual st f fd) (S : FnScope N ps (defScope st)) (n : Nat) (hn : N.length - ps.length = n) (hl : ∀ a, (sl a).length + 1 = ps.length)
    (hb : ∀ (cdv : Value) (A' : Around) (outer : List PySem.Env) (s : Shared) (H : Hp) (E : XK), Room k (A'.deeper (envOfC qual (defScope st) s.heap.objs.size f cdv)) → ∀ (t : T) (a : A),
      LB (cxOf CX0 P w K mg base N qual (defScope st) f cdv A' outer s H E).nox SR (fun _ : Unit => List.replicate (ps.length + n) .un) (fun (r : R) (_ : Unit) => some r) (noLp R) (noLp R) (.lk T ST t :: (sl a ++ List.replicate n .un)) (defBody st) (fun z : Empty => z.elim) (fun _ => m t a)) :
    FnOk P w K mg base CX0 (k + 1) f fd ps (spL K ST sl SR m) := by
  have hlen : ∀ vs H Q E, spL K ST sl SR m vs H Q E → vs.length = ps.length := fun vs H Q E h => by
    obtain ⟨B, F0, t, a, r, v0, vs', rfl, _, h2, _⟩ := h
    rw [List.length_map] at h2; rw [List.length_cons, h2, hl a]
  refine F.ok S hlen fun cdv A' outer s H vs Q E hr h => ?_
  have hlv := hlen vs H Q E h
  obtain ⟨B, F0, t, a, r, v0, vs', rfl, hm, _, her, q⟩ := h
  refine ⟨_, pssC _, ?_⟩
  have hst : L2.start N (v0 :: vs') = (v0 :: vs').map some ++ List.replicate n none := by unfold L2.start; rw [hlv, hn]
  rw [hst]
  refine hb cdv A' outer s H E hr t a ⟨K, B, F0, H, []⟩ F0 H [] [] _ (fun z => z.elim) r { nx := fun _ H' => Q .non H', rt := Q } rfl rfl (her.padR n) hm (fun z => z.elim) (fun z => z.elim) (fun z => z.elim) ?_
  intro a' i v F' H' σ' e h'
  cases e
  exact q F' H' v h'.head
end
section
variable {X : Cx} {Ω : Type} {env : Env} {nm vn : Str} {pos np vp sp : Pos} {e ie : Expr} {xs : List Expr} {Pt A R T : Type} {SR : Stor R} {ST : Stor T} {e' : Pt → Env} {sl : A → Env} {k : Nat} {f : Addr} {fd : FuncData} {ps : List Str}
theorem ER.enterL {C : Ck} {F H : Hp} {σ : List (Option V)} {env : Env} {w : Option V} {t : T} {v0 : V} {i : Nat} {σa : List (Option V)} {ea : Env} (h : ER C F H (σa ++ σ) (ea ++ env)) (hl : σa.length = ea.length) (sh : ShE ea) (hi : env[i]? = some (.st w T ST t)) (hv : σ[i]? = some (some v0)) : ER ⟨C.K, H, F, H, []⟩ F H (some v0 :: σa) (.lk T ST t :: ea) := by
  have h0 : ER C F H σ env := h.popN hl
  obtain ⟨fp, q⟩ := h0.sl
  have hil := lt_of_get hi
  obtain ⟨v', e1, rr, _⟩ := q.ok i _ hi
  rw [hv] at e1
  simp at e1; subst e1
  have he := h.enter hl sh
  obtain ⟨fe, qe⟩ := he.sl
  exact ⟨he.sB, he.sF, he.gr, he.up, by simp [he.len], _, qe.push (fq := []) ⟨rfl, v0, fp i, rfl, rr, fun a m => (q.own i hil a m).2.2⟩ (fun _ m => nomatch m) List.nodup_nil fun _ _ _ _ m => nomatch m⟩
theorem ER.enterLK {C : Ck} {F H : Hp} {σ : List (Option V)} {env : Env} {t : T} {v0 : V} {i : Nat} {σa : List (Option V)} {ea : Env} (h : ER C F H (σa ++ σ) (ea ++ env)) (hl : σa.length = ea.length) (sh : ShE ea) (hi : env[i]? = some (.lk T ST t)) (hv : σ[i]? = some (some v0)) : ER ⟨C.K, H, F, H, []⟩ F H (some v0 :: σa) (.lk T ST t :: ea) := by
  have h0 : ER C F H σ env := h.popN hl
  obtain ⟨fp, q⟩ := h0.sl
  obtain ⟨_, v', fq, e1, rr, hB⟩ := q.ok i _ hi
  rw [hv] at e1
  simp at e1; subst e1
  have he := h.enter hl sh
  obtain ⟨fe, qe⟩ := he.sl
  exact ⟨he.sB, he.sF, he.gr, he.up, by simp [he.len], _, qe.push (fq := []) ⟨rfl, v0, fq, rfl, rr, fun a m => same_some h0.sB (hB a m)⟩ (fun _ m => nomatch m) List.nodup_nil fun _ _ _ _ m => nomatch m⟩
/-- f(x, ..), f reads x's object -/
theorem lx_callL {w : Option V} {t0 : T} {t : Pt → T} {m : T → A → Option R} {fa : (A → Pt → Option Ω) → Option Ω} (i : Nat) (Fn : FnOk X.prog X.w X.K X.mg X.base CX0 k f fd ps (spL X.K ST sl SR m)) (hr : Room k X.A) (hm : X.mg nm = some (.ref f)) (hk : PySem.W.keepIn X.K (.ref f) = true) (hb : Binds X.K fd ps []) (sh : ∀ a, ShE (sl a))
    (h0 : env[i]? = some (.st w T ST t0)) (ha : LA X env xs sl e' fa) (h1 : ∀ p, (e' p)[i]? = some (.st w T ST (t p))) (hN : X.N[i]? = some vn := by rfl) (hv : Vis X.env.scope vn := by first | exact Or.inl rfl | exact Or.inr (Or.inl rfl) | exact Or.inr (Or.inr rfl)) (hd : (vn == ("__debug__" : Str)) = false := by decide) (hcd : (vn == ("__classdict__" : Str)) = false := by decide)
    (hg : Gl X nm := by rfl) (hdb : (nm == ("__debug__" : Str)) = false := by decide) (he : starEach (Expr.Name vn vp :: xs) X.env = (false, eval (Expr.Name vn vp) X.env) :: starEach xs X.env := by rfl) (hpl : (backTo pos (starEach xs X.env)).any (·.1) = false := by rfl) :
    LX X env (.Call (.Name nm np) (.Name vn vp :: xs) [] pos) SR e' (fun k => fa fun a p => (m (t p) a).bind fun r => k r p) :=
  fun C F H σs es σ k ω Q hK hl h hk' q => tE.of X (pe_call Fn hr hg hm hk hb .nil pass0 (paC X) hdb he hpl) (la_lend i h0 hN hv ha hd hcd he C F H σs es σ _ ω _ hK hl h hk' fun a p v0 vs F' H' hk2 hv0 hlv h' => by
    obtain ⟨r, hm', hk2⟩ := bind_some hk2
    show spL X.K ST sl SR m (v0 :: vs ++ []) H' Q _
    rw [List.append_nil, ← hK]
    have h2 : ER C F' H' (vs.map some ++ (σs ++ σ)) (sl a ++ (es ++ e' p)) := h'
    refine ⟨H', F', t p, a, r, v0, vs, rfl, hm', hlv, h2.enterL (i := es.length + i) hlv (sh a) (by rw [at_app _ rfl]; exact h1 p) (by rw [at_app _ hl]; exact hv0), fun F2 H2 v h3 => ?_⟩
    obtain ⟨F3, h4⟩ := (h'.popN hlv).back h3
    exact q r p v F3 H2 hk2 h4)
theorem la_lendK {P : Type} {τ : Type} {S : Stor τ} {e' : P → Env} {fr : (A → P → Option Ω) → Option Ω} (i : Nat) {x : τ} (he : env[i]? = some (.lk τ S x)) (hN : X.N[i]? = some nm) (hv : Vis X.env.scope nm) (h2 : LA X env xs sl e' fr) (hd : (nm == ("__debug__" : Str)) = false := by decide) (hcd : (nm == ("__classdict__" : Str)) = false := by decide)
    (hs : starEach (Expr.Name nm pos :: xs) X.env = (false, eval (Expr.Name nm pos) X.env) :: starEach xs X.env := by rfl) :
    ∀ (C : Ck) (F H : Hp) (σs : List (Option V)) (es : Env) (σ : List (Option V)) (k : A → P → Option Ω) (ω : Ω) (Q : List V → Hp → Prop), C.K = X.K → σs.length = es.length → ER C F H (σs ++ σ) (es ++ env) → fr k = some ω →
    (∀ a p (v : V) (vs : List V) F' H', k a p = some ω → σ[i]? = some (some v) → (vs.map some).length = (sl a).length → ER C F' H' (vs.map some ++ (σs ++ σ)) (sl a ++ (es ++ e' p)) → Q (v :: vs) H') → tAs X (Expr.Name nm pos :: xs) σ H Q :=
  fun C F H σs es σ k ω Q hK hl h hk q => tAs.of X (pa_cons (peC X) (paC X) hs) (tE.of X (pe_var hN hv hd hcd) (by
    obtain ⟨v, fp, e1, r⟩ := h.lookKF hl he
    exact ⟨v, e1, h2 C F H σs es σ k ω _ hK hl h hk fun a p vs F' H' hk' hlv h' => q a p v vs F' H' hk' e1 hlv h'⟩))
/-- .. x itself lent -/
theorem lx_callLK {t0 : T} {m : T → A → Option R} {fa : (A → Pt → Option Ω) → Option Ω} (i : Nat) (Fn : FnOk X.prog X.w X.K X.mg X.base CX0 k f fd ps (spL X.K ST sl SR m)) (hr : Room k X.A) (hm : X.mg nm = some (.ref f)) (hk : PySem.W.keepIn X.K (.ref f) = true) (hb : Binds X.K fd ps []) (sh : ∀ a, ShE (sl a))
    (h0 : env[i]? = some (.lk T ST t0)) (ha : LA X env xs sl e' fa) (h1 : ∀ p, (e' p)[i]? = some (.lk T ST t0)) (hN : X.N[i]? = some vn := by rfl) (hv : Vis X.env.scope vn := by first | exact Or.inl rfl | exact Or.inr (Or.inl rfl) | exact Or.inr (Or.inr rfl)) (hd : (vn == ("__debug__" : Str)) = false := by decide) (hcd : (vn == ("__classdict__" : Str)) = false := by decide)
    (hg : Gl X nm := by rfl) (hdb : (nm == ("__debug__" : Str)) = false := by decide) (he : starEach (Expr.Name vn vp :: xs) X.env = (false, eval (Expr.Name vn vp) X.env) :: starEach xs X.env := by rfl) (hpl : (backTo pos (starEach xs X.env)).any (·.1) = false := by rfl) :
    LX X env (.Call (.Name nm np) (.Name vn vp :: xs) [] pos) SR e' (fun k => fa fun a p => (m t0 a).bind fun r => k r p) :=
  fun C F H σs es σ k ω Q hK hl h hk' q => tE.of X (pe_call Fn hr hg hm hk hb .nil pass0 (paC X) hdb he hpl) (la_lendK i h0 hN hv ha hd hcd he C F H σs es σ _ ω _ hK hl h hk' fun a p v0 vs F' H' hk2 hv0 hlv h' => by
    obtain ⟨r, hm', hk2⟩ := bind_some hk2
    show spL X.K ST sl SR m (v0 :: vs ++ []) H' Q _
    rw [List.append_nil, ← hK]
    have h2 : ER C F' H' (vs.map some ++ (σs ++ σ)) (sl a ++ (es ++ e' p)) := h'
    refine ⟨H', F', t0, a, r, v0, vs, rfl, hm', hlv, h2.enterLK (i := es.length + i) hlv (sh a) (by rw [at_app _ rfl]; exact h1 p) (by rw [at_app _ hl]; exact hv0), fun F2 H2 v h3 => ?_⟩
    obtain ⟨F3, h4⟩ := (h'.popN hlv).back h3
    exact q r p v F3 H2 hk2 h4)
/-- x[i], x a lent list of lists -/
theorem lo_ixK {α : Type} {E : Enc α} {P1 : Type} {e1 : P1 → Env} {fi : (Int → P1 → Option Ω) → Option Ω} {ys : List (List α)} (i : Nat) (h0 : env[i]? = some (.lk (List (List α)) (ls (ls (it E))) ys)) (hi : LX X env ie (it eI) e1 fi) (h1 : ∀ p, (e1 p)[i]? = some (.lk (List (List α)) (ls (ls (it E))) ys))
    (hN : X.N[i]? = some nm := by rfl) (hv : Vis X.env.scope nm := by first | exact Or.inl rfl | exact Or.inr (Or.inl rfl) | exact Or.inr (Or.inr rfl)) (hd : (nm == ("__debug__" : Str)) = false := by decide) (hcd : (nm == ("__classdict__" : Str)) = false := by decide) (hp : PlainIx ie := by exact fun _ _ => rfl) :
    LO X (fun en => en[i]? = some (.lk (List (List α)) (ls (ls (it E))) ys)) env (.Subscript (.Name nm np) ie sp) (ls (it E)) e1 (fun k => fi fun a p => (ixN ys.length a).bind fun n => k (ys.getD n []) p) := by
  have look : ∀ {C : Ck} {F H : Hp} {σq : List (Option V)} {eq env2 : Env} {σ : List (Option V)}, σq.length = eq.length → ER C F H (σq ++ σ) (eq ++ env2) → env2[i]? = some (.lk (List (List α)) (ls (ls (it E))) ys) → ∃ q1 vs fps, σ[i]? = some (some (V.ref q1)) ∧ H q1 = some (.lst vs) ∧ C.B q1 = some (.lst vs) ∧ RelAll ((ls (it E)).rel C.K F H) fps vs ys := by
    intro C F H σq eq env2 σ hl h hg
    obtain ⟨fp, q⟩ := h.sl
    obtain ⟨_, v, fq, e1, r, hB⟩ := q.ok (eq.length + i) _ (by rw [at_app _ rfl]; exact hg)
    rw [at_app _ hl] at e1
    obtain ⟨q1, vs, fps, rfl, hq, ra, rfl⟩ := r
    have b1 := hB q1 List.mem_cons_self
    refine ⟨q1, vs, fps, ?_, hq, ?_, ra⟩
    · cases z : σ[i]? with
      | none => rw [z] at e1; cases e1
      | some o => rw [z] at e1; exact congrArg some e1
    · rw [← same_eq h.sB b1]; exact hq
  refine fun C F H σs es σ k ω Q hK hl h hk q => tE.of X (pe_ix ix_list (pe_var hN hv hd hcd) (peC X) hp) ?_
  obtain ⟨q1, vs, fps, e1', _, b1, _⟩ := look hl h h0
  refine ⟨.ref q1, e1', hi C F H σs es σ _ ω _ hK hl h hk fun j p u F' H' hk' h' => ?_⟩
  have hu : u = .int j := by
    obtain ⟨v', fp, e1, r⟩ := h'.look (i := 0) rfl
    simp at e1; subst e1
    obtain ⟨_, r⟩ := r
    cases r; rfl
  subst hu
  have h3 : ER C F' H' (σs ++ σ) (es ++ e1 p) := h'.pop
  obtain ⟨n, hn, hk'⟩ := bind_some hk'
  obtain ⟨q1', vs', fps', e2, hq, b2, ra⟩ := look hl h3 (h1 p)
  rw [e1'] at e2; cases e2
  have hlen := ra.length
  have hnl : n < ys.length := ixN_lt' hn
  have hx : ys[n]? = some (ys.getD n []) := by rw [List.getElem?_eq_getElem hnl, List.getD_eq_getElem?_getD, List.getElem?_eq_getElem hnl]; rfl
  obtain ⟨fp1, fq, fp2, v, efp, hvn, rv, _⟩ := ra.split hx
  refine ⟨q1, vs', j, v, rfl, rfl, SqL.of hq, by unfold atI; rw [hlen, hn]; exact hvn, ?_⟩
  refine q (ys.getD n []) p v F' H' [] [] rfl hk' h3 fun F'' H'' σ2 e2 env2 hg hl2 h2 => ?_
  have h4 : ER C F'' H'' ((σ2 ++ σs) ++ σ) ((e2 ++ es) ++ env2) := by simpa [List.append_assoc] using h2
  obtain ⟨q3, vs3, fps3, e3, _, b3, ra3⟩ := look (by simp [hl, hl2]) h4 hg
  rw [e1'] at e3; cases e3
  rw [b2] at b3; cases b3
  obtain ⟨_, fq3, _, v3, _, hvn3, rv3, _⟩ := ra3.split hx
  rw [hvn] at hvn3; cases hvn3
  exact ⟨fq3, rv3⟩
/-! ### shared lists are lent as well -/
theorem rep_ls1 {α : Type} {E : Enc α} {K : Fg} {F H : Hp} {v : V} {x : List α} (s : Same F H) (h : Rep K F v ((eL E).enc x)) : ∃ fq, (ls (it E)).rel K F H fq v x ∧ ∀ a ∈ fq, F a ≠ none := by
  obtain ⟨p, vs, rfl, hF, ra⟩ := Rep.lst_inv h
  exact ⟨[p], ⟨p, vs, [], rfl, s _ _ hF, ra.zero, rfl⟩, fun a m => by simp at m; subst m; rw [hF]; exact fun z => by cases z⟩
theorem rep_all1 {α : Type} {E : Enc α} {K : Fg} {F H : Hp} (s : Same F H) : ∀ {vs : List V} {x : List (List α)}, RepAll K F vs (x.map (eL E).enc) → ∃ fq, RelAll ((ls (it E)).rel K F H) fq vs x ∧ ∀ a ∈ fq, F a ≠ none
  | [], [], _ => ⟨[], .nil, fun _ m => nomatch m⟩
  | [], _ :: _, h => by cases h
  | _ :: _, [], h => by cases h
  | v :: vs, y :: ys, h => by
    cases h with
    | cons h1 h2 =>
      obtain ⟨f1, r1, n1⟩ := rep_ls1 s h1
      obtain ⟨f2, r2, n2⟩ := rep_all1 s h2
      exact ⟨f1 ++ f2, .cons r1 r2, fun a m => (List.mem_append.1 m).elim (n1 a) (n2 a)⟩
theorem rep_ls2 {α : Type} {E : Enc α} {K : Fg} {F H : Hp} {v : V} {x : List (List α)} (s : Same F H) (h : Rep K F v ((eL (eL E)).enc x)) : ∃ fq, (ls (ls (it E))).rel K F H fq v x ∧ ∀ a ∈ fq, F a ≠ none := by
  obtain ⟨p, vs, rfl, hF, ra⟩ := Rep.lst_inv h
  obtain ⟨fq, r, n⟩ := rep_all1 s ra
  refine ⟨p :: fq, ⟨p, vs, fq, rfl, s _ _ hF, r, rfl⟩, fun a m => ?_⟩
  rcases List.mem_cons.1 m with rfl | m
  · rw [hF]; exact fun z => by cases z
  · exact n a m
/-- f(e, ..), f reads the shared list that e tells -/
theorem lx_callLS {α : Type} {E : Enc α} {m : List (List α) → A → Option R} {fa : ((List (List α) × A) → Pt → Option Ω) → Option Ω} (Fn : FnOk X.prog X.w X.K X.mg X.base CX0 k f fd ps (spL X.K (ls (ls (it E))) sl SR m)) (hr : Room k X.A) (hm : X.mg nm = some (.ref f)) (hk : PySem.W.keepIn X.K (.ref f) = true) (hb : Binds X.K fd ps []) (sh : ∀ a, ShE (sl a))
    (ha : LA X env (e :: xs) (fun a : List (List α) × A => .st none (List (List α)) (it (eL (eL E))) a.1 :: sl a.2) e' fa) (hg : Gl X nm := by rfl) (hdb : (nm == ("__debug__" : Str)) = false := by decide) (he : starEach (e :: xs) X.env = (false, eval e X.env) :: starEach xs X.env := by rfl) (hpl : (backTo pos (starEach xs X.env)).any (·.1) = false := by rfl) :
    LX X env (.Call (.Name nm np) (e :: xs) [] pos) SR e' (fun k => fa fun a p => (m a.1 a.2).bind fun r => k r p) :=
  fun C F H σs es σ k ω Q hK hl h hk' q => tE.of X (pe_call Fn hr hg hm hk hb .nil pass0 (paC X) hdb he hpl) (ha C F H σs es σ _ ω _ hK hl h hk' fun a p vs F' H' hk2 hlv h' => by
    obtain ⟨r, hm', hk3⟩ := bind_some hk2
    obtain ⟨t, a⟩ := a
    show spL X.K (ls (ls (it E))) sl SR m (vs ++ []) H' Q _
    rw [List.append_nil, ← hK]
    match vs, hlv with
    | v0 :: vs, hlv =>
      have hlv2 : (vs.map some).length = (sl a).length := by simpa using hlv
      have hall := h'.enter (σa := (v0 :: vs).map some) (ea := .st none (List (List α)) (it (eL (eL E))) t :: sl a) hlv (.cons cp_it (sh a))
      have hsub := h'.pop.enter hlv2 (sh a)
      obtain ⟨fe, qe⟩ := hsub.sl
      obtain ⟨v1, e1, r1⟩ := hall.rep (i := 0) rfl
      simp at e1; subst e1
      obtain ⟨fq, rr, nn⟩ := rep_ls2 hall.sF r1
      refine ⟨H', F', t, a, r, v0, vs, rfl, hm', hlv2, ⟨hsub.sB, hsub.sF, hsub.gr, hsub.up, by simp [hsub.len], _, qe.push (fq := []) ⟨rfl, v0, fq, rfl, rr, fun a m => same_some hall.sF (nn a m)⟩ (fun _ m => nomatch m) List.nodup_nil fun _ _ _ _ m => nomatch m⟩, fun F2 H2 v h3 => ?_⟩
      obtain ⟨F3, h4⟩ := (h'.popN hlv).back h3
      exact q r p v F3 H2 hk3 h4)
end
/-- a tuple of one -/
def eT1 {α : Type} (A : Enc α) : Enc α := ⟨fun a => .tuple [A.enc a], fun a b h => by
  injection h with h
  simp only [List.cons.injEq, and_true] at h
  exact A.inj _ _ h⟩
section
variable {X : Cx} {Ω : Type} {env : Env} {nm : Str} {pos : Pos} {a b c e : Expr} {xs rest : List Expr} {P P1 P2 P3 A : Type} {τ τ1 τ2 α β : Type} {S : Stor τ} {S1 : Stor τ1} {S2 : Stor τ2} {E : Enc τ} {E1 : Enc τ1} {E2 : Enc τ2}
/-- a or b, a and b, where b changes things: what is left is told by j -/
theorem lw_orJ {Pj : Type} (envJ : Pj → Env) {e1 : P1 → Env} {e2 : P1 → P2 → Env} {fa : (Bool → P1 → Option Ω) → Option Ω} {fb : P1 → (Bool → P2 → Option Ω) → Option Ω} (ha : LT X env a e1 fa) (hb : ∀ p1, LW X (e1 p1) (.BoolOp .Or (b :: rest) pos) (e2 p1) (fb p1)) (ja : P1 → Pj) (jb : P1 → P2 → Pj) (hs : ∀ p1, Sub (e1 p1) (envJ (ja p1))) (hs2 : ∀ p1 p2, Sub (e2 p1 p2) (envJ (jb p1 p2))) :
    LW X env (.BoolOp .Or (a :: b :: rest) pos) envJ (fun k => fa fun x p1 => if x = true then k true (ja p1) else fb p1 fun y p2 => k y (jb p1 p2)) :=
  fun C F H σs es σ k ω Q hK hl hr hk q => tW.of X (pw_or (ptC X) (pwC X)) (ha C F H σs es σ _ ω _ hK hl hr hk fun x p1 F' H' hk' h' => by
    cases x with
    | true => rw [if_pos rfl] at hk' ⊢; exact q true (ja p1) F' H' hk' (h'.subF (hs p1))
    | false => rw [if_neg Bool.false_ne_true] at hk' ⊢; exact hb p1 C F' H' σs es σ _ ω Q hK hl h' hk' fun y p2 F2 H2 hk2 h2 => q y (jb p1 p2) F2 H2 hk2 (h2.subF (hs2 p1 p2)))
theorem lw_andJ {Pj : Type} (envJ : Pj → Env) {e1 : P1 → Env} {e2 : P1 → P2 → Env} {fa : (Bool → P1 → Option Ω) → Option Ω} {fb : P1 → (Bool → P2 → Option Ω) → Option Ω} (ha : LT X env a e1 fa) (hb : ∀ p1, LW X (e1 p1) (.BoolOp .And (b :: rest) pos) (e2 p1) (fb p1)) (ja : P1 → Pj) (jb : P1 → P2 → Pj) (hs : ∀ p1, Sub (e1 p1) (envJ (ja p1))) (hs2 : ∀ p1 p2, Sub (e2 p1 p2) (envJ (jb p1 p2))) :
    LW X env (.BoolOp .And (a :: b :: rest) pos) envJ (fun k => fa fun x p1 => if x = true then fb p1 fun y p2 => k y (jb p1 p2) else k false (ja p1)) :=
  fun C F H σs es σ k ω Q hK hl hr hk q => tW.of X (pw_and (ptC X) (pwC X)) (ha C F H σs es σ _ ω _ hK hl hr hk fun x p1 F' H' hk' h' => by
    cases x with
    | true => rw [if_pos rfl] at hk' ⊢; exact hb p1 C F' H' σs es σ _ ω Q hK hl h' hk' fun y p2 F2 H2 hk2 h2 => q y (jb p1 p2) F2 H2 hk2 (h2.subF (hs2 p1 p2))
    | false => rw [if_neg Bool.false_ne_true] at hk' ⊢; exact q false (ja p1) F' H' hk' (h'.subF (hs p1)))
end
section
variable {X : Cx} {Ω : Type} {env : Env} {nm : Str} {pos sp np fp0 : Pos} {ie : Expr} {P1 α : Type} {E : Enc α}
/-- len(x[i]), x a list of own lists -/
theorem lx_lenIx {fi : (Int → P1 → Option Ω) → Option Ω} {e1 : P1 → Env} {w : Option V} {xs : List (List α)} (i : Nat) (hm : X.mg "len" = none) (h0 : env[i]? = some (.st w (List (List α)) (ls (ls (it E))) xs))
    (hi : LX X env ie (it eI) e1 fi) (h1 : ∀ p, (e1 p)[i]? = some (.st w (List (List α)) (ls (ls (it E))) xs))
    (hN : X.N[i]? = some nm := by rfl) (hv : Vis X.env.scope nm := by first | exact Or.inl rfl | exact Or.inr (Or.inl rfl) | exact Or.inr (Or.inr rfl))
    (hd : (nm == ("__debug__" : Str)) = false := by decide) (hcd : (nm == ("__classdict__" : Str)) = false := by decide) (hp : PlainIx ie := by exact fun _ _ => rfl)
    (hg : Gl X "len" := by rfl) (he : starEach (Expr.Subscript (.Name nm np) ie sp :: []) X.env = (false, eval (Expr.Subscript (.Name nm np) ie sp) X.env) :: starEach [] X.env := by rfl) (hpl : (backTo pos (starEach [] X.env)).any (·.1) = false := by rfl) :
    LX X env (.Call (.Name "len" fp0) [.Subscript (.Name nm np) ie sp] [] pos) (it eI) e1 (fun k => fi fun a p => (ixN xs.length a).bind fun n => k ((xs.getD n []).length : Int) p) :=
  fun C F H σs es σ k ω Q hK hl h hk q => tE.of X (pe_callB call_len_seq hg hm PySem.boot_len (pa_cons (pe_ix ix_list (pe_var hN hv hd hcd) (peC X) hp) pa_nil he) (by decide) (by decide) he hpl) (by
    obtain ⟨l, fp, e1', r⟩ := h.lookF hl h0
    refine ⟨l, e1', hi C F H σs es σ _ ω _ hK hl h hk fun j p u F' H' hk' h' => ?_⟩
    have hu : u = .int j := by
      obtain ⟨v', fp, e1, r⟩ := h'.look (i := 0) rfl
      simp at e1; subst e1
      obtain ⟨_, r⟩ := r
      cases r; rfl
    subst hu
    have h3 : ER C F' H' (σs ++ σ) (es ++ e1 p) := h'.pop
    obtain ⟨n, hn, hk'⟩ := bind_some hk'
    obtain ⟨l', fp', e3, r1⟩ := h3.lookF hl (h1 p)
    rw [e1'] at e3; cases e3
    obtain ⟨q1, vs, fps, rfl, hq, ra, rfl⟩ := r1
    have hlen := ra.length
    have hnl : n < xs.length := ixN_lt' hn
    have hx : xs[n]? = some (xs.getD n []) := by rw [List.getElem?_eq_getElem hnl, List.getD_eq_getElem?_getD, List.getElem?_eq_getElem hnl]; rfl
    obtain ⟨fp1, fq, fp2, v, efp, hvn, rv, _⟩ := ra.split hx
    obtain ⟨q2, ws, fps2, rfl, hq2, rw2, rfl⟩ := rv
    have hlen2 := rw2.length
    refine ⟨q1, vs, j, .ref q2, rfl, rfl, SqL.of hq, by unfold atI; rw [hlen, hn]; exact hvn, ?_⟩
    exact ⟨q2, ws, rfl, .inl (SqL.of hq2), by rw [hlen2]; exact q _ p _ F' H' hk' (h3.pushSh (.int _))⟩)
end
end Z

set_option Elab.async false
set_option linter.all false
set_option maxRecDepth 100000
namespace Z
open PySem PySem.Spec PyProof.Rows L2
/-! ### instances whose fields hold shared data -/
def insS {τ : Type} (c : Addr) (ns : List Str) (f : τ → List PyData) : Stor τ where
  rel := fun K F H fp v x => ∃ p dx vs, v = .ref p ∧ H p = some (.ins c dx (ns.zip vs)) ∧ vs.length = ns.length ∧ RepAll K F vs (f x) ∧ fp = [p]
  monoF := fun s h => by
    obtain ⟨p, dx, vs, rfl, hp, hl, r, rfl⟩ := h
    exact ⟨p, dx, vs, rfl, hp, hl, r.mono s, rfl⟩
  frame := fun g h => by
    obtain ⟨p, dx, vs, rfl, hp, hl, r, rfl⟩ := h
    exact ⟨p, dx, vs, rfl, by rw [g p (by simp)]; exact hp, hl, r, rfl⟩
theorem zip_look : ∀ {ns : List Str} {vs : List V} {j : Nat} {nm : Str} {v : V}, ns.Nodup → ns[j]? = some nm → vs[j]? = some v → (ns.zip vs).lookup nm = some v
  | [], _, _, _, _, _, h, _ => by simp at h
  | _ :: _, [], _, _, _, _, _, h => by simp at h
  | n :: ns, u :: vs, 0, nm, v, _, h, h2 => by
    simp at h h2; subst h; subst h2
    show (match (n == n) with | true => some u | false => _) = _
    rw [beq_self_eq_true]
  | n :: ns, u :: vs, j + 1, nm, v, nd, h, h2 => by
    have ne : nm ≠ n := fun z => (List.nodup_cons.1 nd).1 (by rw [← z]; exact List.mem_of_getElem? (by simpa using h))
    show (match (nm == n) with | true => some u | false => (ns.zip vs).lookup nm) = _
    rw [beq_false_of_ne ne]
    exact zip_look (List.nodup_cons.1 nd).2 (by simpa using h) (by simpa using h2)
theorem zip_no : ∀ {ns : List Str} {vs : List V} {nm : Str}, nm ∉ ns → (ns.zip vs).lookup nm = none
  | [], _, _, _ => rfl
  | _ :: _, [], _, _ => rfl
  | n :: ns, u :: vs, nm, h => by
    have ne : nm ≠ n := fun z => h (by rw [z]; exact List.mem_cons_self)
    show (match (nm == n) with | true => some u | false => (ns.zip vs).lookup nm) = _
    rw [beq_false_of_ne ne]
    exact zip_no fun m => h (List.mem_cons_of_mem _ m)
theorem putF_nil (nm : Str) (v : V) : putF nm v [] = [(nm, v)] := rfl
theorem putF_cons (nm n : Str) (v u : V) (r : List (Str × V)) : putF nm v ((n, u) :: r) = if n = nm then (n, v) :: r else (n, u) :: putF nm v r := rfl
theorem putF_new : ∀ {ns : List Str} {vs : List V} {nm : Str} {v : V}, nm ∉ ns → vs.length = ns.length → putF nm v (ns.zip vs) = (ns ++ [nm]).zip (vs ++ [v])
  | [], [], nm, v, _, _ => putF_nil nm v
  | [], _ :: _, _, _, _, h => by simp at h
  | _ :: _, [], _, _, _, h => by simp at h
  | n :: ns, u :: vs, nm, v, h, hl => by
    have ne : ¬ n = nm := fun z => h (by rw [z]; exact List.mem_cons_self)
    show putF nm v ((n, u) :: ns.zip vs) = (n, u) :: (ns ++ [nm]).zip (vs ++ [v])
    rw [putF_cons, if_neg ne, putF_new (fun m => h (List.mem_cons_of_mem _ m)) (by simpa using hl)]
theorem putF_old : ∀ {ns : List Str} {vs : List V} {j : Nat} {nm : Str} {v : V}, ns.Nodup → ns[j]? = some nm → vs.length = ns.length → putF nm v (ns.zip vs) = ns.zip (vs.set j v)
  | [], _, _, _, _, _, h, _ => by simp at h
  | _ :: _, [], _, _, _, _, _, h => by simp at h
  | n :: ns, u :: vs, 0, nm, v, _, h, _ => by
    simp at h; subst h
    show putF n v ((n, u) :: ns.zip vs) = (n, v) :: ns.zip vs
    rw [putF_cons, if_pos rfl]
  | n :: ns, u :: vs, j + 1, nm, v, nd, h, hl => by
    have ne : ¬ n = nm := fun z => (List.nodup_cons.1 nd).1 (by rw [z]; exact List.mem_of_getElem? (by simpa using h))
    show putF nm v ((n, u) :: ns.zip vs) = (n, u) :: ns.zip (vs.set j v)
    rw [putF_cons, if_neg ne, putF_old (List.nodup_cons.1 nd).2 (by simpa using h) (by simpa using hl)]
section
variable {X : Cx} {Ω : Type} {env : Env} {nm fn : Str} {np ap pos : Pos} {τ τ' α P : Type} {E : Enc α} {c : Addr} {ns ns' : List Str} {f : τ → List PyData} {f' : τ' → List PyData} {x : τ} {y : α} {w : Option V} {e : Expr} {e' : P → Env}
/-- x.f, x an instance -/
theorem lx_fld (i j : Nat) (cl : Cls X.K c) (na : NoAttr X.K c fn) (h0 : env[i]? = some (.st w τ (insS c ns f) x)) (hj : ns[j]? = some fn) (hy : (f x)[j]? = some (E.enc y)) (nd : ns.Nodup := by decide +kernel) (hN : X.N[i]? = some nm := by rfl) (hv : Vis X.env.scope nm := by first | exact Or.inl rfl | exact Or.inr (Or.inl rfl) | exact Or.inr (Or.inr rfl))
    (hd : (nm == ("__debug__" : Str)) = false := by decide) (hcd : (nm == ("__classdict__" : Str)) = false := by decide) (hb : attributeBase (.Name nm np) fn X.env (eval (.Name nm np) X.env) = eval (.Name nm np) X.env := by rfl) :
    LX X env (.Attribute (.Name nm np) fn ap) (it E) (fun _ : Unit => env) (fun (k : α → Unit → Option Ω) => k y ()) := by
  refine fun C F H σs es σ k ω Q hK hl h hk q => tE.of X (pe_fld (pe_var hN hv hd hcd) hb) ?_
  obtain ⟨v, fp, e1, r⟩ := h.lookF hl h0
  obtain ⟨p, dx, vs, rfl, hp, hlen, ra, rfl⟩ := r
  obtain ⟨u, hu, ru⟩ := ra.get hy
  exact ⟨.ref p, e1, p, c, dx, _, u, rfl, hp, cl, na, zip_look nd hj hu, q y () u F H hk (h.pushSh ru)⟩
/-- .. x lent -/
theorem lx_fldK (i j : Nat) (cl : Cls X.K c) (na : NoAttr X.K c fn) (h0 : env[i]? = some (.lk τ (insS c ns f) x)) (hj : ns[j]? = some fn) (hy : (f x)[j]? = some (E.enc y)) (nd : ns.Nodup := by decide +kernel) (hN : X.N[i]? = some nm := by rfl) (hv : Vis X.env.scope nm := by first | exact Or.inl rfl | exact Or.inr (Or.inl rfl) | exact Or.inr (Or.inr rfl))
    (hd : (nm == ("__debug__" : Str)) = false := by decide) (hcd : (nm == ("__classdict__" : Str)) = false := by decide) (hb : attributeBase (.Name nm np) fn X.env (eval (.Name nm np) X.env) = eval (.Name nm np) X.env := by rfl) :
    LX X env (.Attribute (.Name nm np) fn ap) (it E) (fun _ : Unit => env) (fun (k : α → Unit → Option Ω) => k y ()) := by
  refine fun C F H σs es σ k ω Q hK hl h hk q => tE.of X (pe_fld (pe_var hN hv hd hcd) hb) ?_
  obtain ⟨v, fp, e1, r⟩ := h.lookKF hl h0
  obtain ⟨p, dx, vs, rfl, hp, hlen, ra, rfl⟩ := r
  obtain ⟨u, hu, ru⟩ := ra.get hy
  exact ⟨.ref p, e1, p, c, dx, _, u, rfl, hp, cl, na, zip_look nd hj hu, q y () u F H hk (h.pushSh ru)⟩
end
section
variable {X : Cx} {Ω : Type} {env : Env} {nm fn : Str} {np ap pos : Pos} {τ τ' α P R I J : Type} {E : Enc α} {c : Addr} {ns ns' : List Str} {f : τ → List PyData} {f' : τ' → List PyData} {w : Option V} {e : Expr} {e' : P → Env} {SR : Stor R} {envR : I → Env} {kr : R → I → Option Ω} {bk ct : Lp Ω} {rest : List Stmt} {envJ : J → Env}
/-- x.f = e -/
theorem lb_fld0 {fe : (α → P → Option Ω) → Option Ω} {fr : α → P → (J → Option Ω) → Option Ω} {t : P → τ} (i : Nat) (u : α → P → τ') (cl : Cls X.K c) (na : NoAttr X.K c fn) (he : LX X env e (it E) e' fe) (h1 : ∀ p, (e' p)[i]? = some (.st w τ (insS c ns f) (t p)))
    (hput : ∀ y p (K : Fg) (F : Hp) vs v, vs.length = ns.length → RepAll K F vs (f (t p)) → Rep K F v (E.enc y) → ∃ vs', vs'.length = ns'.length ∧ putF fn v (ns.zip vs) = ns'.zip vs' ∧ RepAll K F vs' (f' (u y p))) (hsz : ns.length < 1000)
    (hr : ∀ y p, LB X SR envR kr bk ct ((e' p).set i (.st w τ' (insS c ns' f') (u y p))) rest envJ (fr y p))
    (hN : X.N[i]? = some nm := by rfl) (hv : Vis X.env.scope nm := by first | exact Or.inl rfl | exact Or.inr (Or.inl rfl) | exact Or.inr (Or.inr rfl)) (hd : (nm == ("__debug__" : Str)) = false := by decide) (hcd : (nm == ("__classdict__" : Str)) = false := by decide)
    (hs : swapsWith e (some (.Attribute (.Name nm np) fn ap)) pos.line X.env = pure false := by rfl) :
    LB X SR envR kr bk ct env (.Assign [.Attribute (.Name nm np) fn ap] e pos :: rest) envJ (fun kn => fe fun y p => fr y p kn) :=
  fun C F H σs es σ kn ω D hK hl h hk qn qb qc qr => tSs.of X (pss_cons (ps_fld (pe_var hN hv hd hcd) (peC X) hs) (pssC X)) (he C F H σs es σ _ ω _ hK hl h hk fun y p v F' H' hk' h' => by
    have hvy : Rep C.K F' v (E.enc y) := by
      obtain ⟨v', fp, e1, r⟩ := h'.look (i := 0) rfl
      simp at e1; subst e1
      exact r.2
    obtain ⟨l, fp, e1, r1, nd, ow, fin⟩ := (ER.pop h').mut (i := es.length + i) (by rw [at_app _ rfl]; exact h1 p)
    rw [at_app _ hl] at e1
    obtain ⟨p0, dx, vs, rfl, hp, hlen, ra, rfl⟩ := r1
    obtain ⟨vs', hl', hpt, ra'⟩ := hput y p C.K F' vs v hlen ra hvy
    refine ⟨_, e1, p0, c, dx, _, rfl, hp, cl, na, by rw [List.length_zip, hlen, Nat.min_self]; exact hsz, ?_⟩
    rw [hpt]
    have fin' := fin τ' (insS c ns' f') (u y p) (upd H' p0 (.ins c dx (ns'.zip vs'))) [p0] (fun a na _ => upd_ne fun z => na (by rw [z]; simp)) (fun a m => ?_) ⟨p0, dx, vs', rfl, upd_same, hl', ra', rfl⟩ (by simp) (fun a m => ?_)
    · rw [List.set_append_right _ _ (Nat.le_add_right _ _), Nat.add_sub_cancel_left] at fin'
      exact hr y p C F' _ σs es σ kn ω D hK hl fin' hk' qn qb qc qr
    · by_cases z : a = p0
      · subst z; rw [upd_same]; exact fun z => by cases z
      · rw [upd_ne z]; exact m
    · simp at m; subst m
      exact ⟨by rw [upd_same]; exact (fun z => by cases z), .inl (by simp)⟩)
/-- .. a field that is there -/
theorem lb_fldO {fe : (α → P → Option Ω) → Option Ω} {fr : α → P → (J → Option Ω) → Option Ω} {t : P → τ} (i j : Nat) (u : α → P → τ) (cl : Cls X.K c) (na : NoAttr X.K c fn) (he : LX X env e (it E) e' fe) (h1 : ∀ p, (e' p)[i]? = some (.st w τ (insS c ns f) (t p)))
    (hj : ns[j]? = some fn) (hu : ∀ y p, f (u y p) = (f (t p)).set j (E.enc y))
    (hr : ∀ y p, LB X SR envR kr bk ct ((e' p).set i (.st w τ (insS c ns f) (u y p))) rest envJ (fr y p))
    (nd : ns.Nodup := by decide +kernel) (hsz : ns.length < 1000 := by decide)
    (hN : X.N[i]? = some nm := by rfl) (hv : Vis X.env.scope nm := by first | exact Or.inl rfl | exact Or.inr (Or.inl rfl) | exact Or.inr (Or.inr rfl)) (hd : (nm == ("__debug__" : Str)) = false := by decide) (hcd : (nm == ("__classdict__" : Str)) = false := by decide)
    (hs : swapsWith e (some (.Attribute (.Name nm np) fn ap)) pos.line X.env = pure false := by rfl) :
    LB X SR envR kr bk ct env (.Assign [.Attribute (.Name nm np) fn ap] e pos :: rest) envJ (fun kn => fe fun y p => fr y p kn) :=
  lb_fld0 i u cl na he h1 (fun y p K F vs v hl ra rv => ⟨vs.set j v, by rw [List.length_set]; exact hl, putF_old nd hj hl, by rw [hu]; exact ra.set rv⟩) hsz hr hN hv hd hcd hs
/-- .. a new field -/
theorem lb_fldN {fe : (α → P → Option Ω) → Option Ω} {fr : α → P → (J → Option Ω) → Option Ω} {t : P → τ} (i : Nat) (f' : τ' → List PyData) (u : α → P → τ') (cl : Cls X.K c) (na : NoAttr X.K c fn) (he : LX X env e (it E) e' fe) (h1 : ∀ p, (e' p)[i]? = some (.st w τ (insS c ns f) (t p)))
    (hu : ∀ y p, f' (u y p) = f (t p) ++ [E.enc y])
    (hr : ∀ y p, LB X SR envR kr bk ct ((e' p).set i (.st w τ' (insS c (ns ++ [fn]) f') (u y p))) rest envJ (fr y p))
    (hno : fn ∉ ns := by decide +kernel) (hsz : ns.length < 1000 := by decide)
    (hN : X.N[i]? = some nm := by rfl) (hv : Vis X.env.scope nm := by first | exact Or.inl rfl | exact Or.inr (Or.inl rfl) | exact Or.inr (Or.inr rfl)) (hd : (nm == ("__debug__" : Str)) = false := by decide) (hcd : (nm == ("__classdict__" : Str)) = false := by decide)
    (hs : swapsWith e (some (.Attribute (.Name nm np) fn ap)) pos.line X.env = pure false := by rfl) :
    LB X SR envR kr bk ct env (.Assign [.Attribute (.Name nm np) fn ap] e pos :: rest) envJ (fun kn => fe fun y p => fr y p kn) :=
  lb_fld0 i u cl na he h1 (fun y p K F vs v hl ra rv => ⟨vs ++ [v], by simp [hl], putF_new hno hl, by rw [hu]; exact ra.app (.cons rv .nil)⟩) hsz hr hN hv hd hcd hs
/-- return -/
theorem lb_retN {kr : Unit → I → Option Ω} {pos : Pos} (g : I) (hs : Sub env (envR g)) : LB X (it eN) envR kr bk ct env (.Return none pos :: rest) envJ (fun _ => kr () g) :=
  fun C F H σs es σ kn ω D hK hl h hk qn qb qc qr => tSs.of X (pss_cons ps_retN (pssC X)) (qr () g .non F H σ hk (ER.sub (h.pushSh .non) (.keep (hs.pre es))))
end
/-! ### methods -/
section
variable {X : Cx} {Ω : Type} {env : Env} {vn mn : Str} {pos ap vp : Pos} {e : Expr} {xs : List Expr} {Pt A R T : Type} {SR : Stor R} {e' : Pt → Env} {sl : A → Env} {k : Nat} {f c : Addr} {fd : FuncData} {ps ns : List Str} {g : T → List PyData}
/-- x.f(..), f changes x -/
theorem lx_methI {w : Option V} {t0 : T} {t : Pt → T} {m : T → A → Option (R × T)} {fa : (A → Pt → Option Ω) → Option Ω} {pl : Sem Bool} (i : Nat) (cl : Cls X.K c) (hm : Meth X.K c mn f) (Fn : FnOk X.prog X.w X.K X.mg X.base CX0 k f fd ps (spI X.K (insS c ns g) sl SR m)) (hr : Room k X.A) (hb : Binds X.K fd ps []) (sh : ∀ a, ShE (sl a))
    (h0 : env[i]? = some (.st w T (insS c ns g) t0)) (ha : LA X env (e :: xs) sl e' fa) (h1 : ∀ p, (e' p)[i]? = some (.st w T (insS c ns g) (t p))) (hno : mn ∉ ns := by decide +kernel) (hN : X.N[i]? = some vn := by rfl) (hv : Vis X.env.scope vn := by first | exact Or.inl rfl | exact Or.inr (Or.inl rfl) | exact Or.inr (Or.inr rfl)) (hd : (vn == ("__debug__" : Str)) = false := by decide) (hcd : (vn == ("__classdict__" : Str)) = false := by decide)
    (he : starEach (e :: xs) X.env = (false, eval e X.env) :: starEach xs X.env := by rfl) (hpl : (backTo pos (starEach xs X.env)).any (·.1) = false := by rfl) (ht : eval (.Call (.Attribute (.Name vn vp) mn ap) (e :: xs) [] pos) X.env = (do let ov ← eval (.Name vn vp) X.env; standAt ap.atName; let (f, first) ← holding [ov] (getMethod ov mn pl); callWith pos f first (backTo pos (starEach (e :: xs) X.env)) (backToKw pos (keywordEach [] X.env))) := by rfl) :
    LX X env (.Call (.Attribute (.Name vn vp) mn ap) (e :: xs) [] pos) SR (fun p : Pt × T => (e' p.1).set i (.st w T (insS c ns g) p.2)) (fun k => fa fun a p => (m (t p) a).bind fun r => k r.1 (p, r.2)) :=
  fun C F H σs es σ k ω Q hK hl h hk' q => tE.of X (pe_meth (pe_var hN hv hd hcd) cl hm Fn hr hb .nil pass0 (paC X) he hpl ht) (by
    obtain ⟨v0, fp, e1, r⟩ := h.lookF hl h0
    obtain ⟨p0, dx, vs0, rfl, hp, hlen, ra, rfl⟩ := r
    refine ⟨.ref p0, e1, p0, dx, _, rfl, hp, zip_no hno, ha C F H σs es σ _ ω _ hK hl h hk' fun a p vs F' H' hk2 hlv h' => ?_⟩
    obtain ⟨⟨r, t'⟩, hm', hk2⟩ := bind_some hk2
    show spI X.K (insS c ns g) sl SR m (.ref p0 :: vs ++ []) H' Q _
    rw [List.append_nil, ← hK]
    have h2 : ER C F' H' (vs.map some ++ (σs ++ σ)) (sl a ++ (es ++ e' p)) := h'
    obtain ⟨B, io, g1, g2⟩ := h2.enterI (i := es.length + i) (v0 := .ref p0) hlv (sh a) (by rw [at_app _ rfl]; exact h1 p) (by rw [at_app _ hl]; exact e1)
    refine ⟨B, F', io, t p, a, r, t', .ref p0, vs, rfl, hm', hlv, g1, fun F2 H2 v h3 => ?_⟩
    obtain ⟨F3, h4⟩ := g2 R SR r t' F2 H2 v h3
    rw [List.set_append_right _ _ (Nat.le_add_right _ _), Nat.add_sub_cancel_left] at h4
    exact q r (p, t') v F3 H2 hk2 h4)
theorem lx_methI0 {w : Option V} {t0 : T} {m : T → Unit → Option (R × T)} {pl : Sem Bool} (i : Nat) (cl : Cls X.K c) (hm : Meth X.K c mn f) (Fn : FnOk X.prog X.w X.K X.mg X.base CX0 k f fd ps (spI X.K (insS c ns g) (fun _ : Unit => []) SR m)) (hr : Room k X.A) (hb : Binds X.K fd ps [])
    (h0 : env[i]? = some (.st w T (insS c ns g) t0)) (hno : mn ∉ ns := by decide +kernel) (hN : X.N[i]? = some vn := by rfl) (hv : Vis X.env.scope vn := by first | exact Or.inl rfl | exact Or.inr (Or.inl rfl) | exact Or.inr (Or.inr rfl)) (hd : (vn == ("__debug__" : Str)) = false := by decide) (hcd : (vn == ("__classdict__" : Str)) = false := by decide) (ht : eval (.Call (.Attribute (.Name vn vp) mn ap) [] [] pos) X.env = (do let ov ← eval (.Name vn vp) X.env; standAt ap.atName; let (f, first) ← holding [ov] (getMethod ov mn pl); callWith pos f first (backTo pos (starEach [] X.env)) (backToKw pos (keywordEach [] X.env))) := by rfl) :
    LX X env (.Call (.Attribute (.Name vn vp) mn ap) [] [] pos) SR (fun p : T => env.set i (.st w T (insS c ns g) p)) (fun (k : R → T → Option Ω) => (m t0 ()).bind fun r => k r.1 r.2) :=
  fun C F H σs es σ k ω Q hK hl h hk' q => tE.of X (pe_meth0 (pe_var hN hv hd hcd) cl hm Fn hr hb .nil pass0 ht) (by
    obtain ⟨v0, fp, e1, r⟩ := h.lookF hl h0
    obtain ⟨p0, dx, vs0, rfl, hp, hlen, ra, rfl⟩ := r
    refine ⟨.ref p0, e1, p0, dx, _, rfl, hp, zip_no hno, ?_⟩
    obtain ⟨⟨r, t'⟩, hm', hk2⟩ := bind_some hk'
    show spI X.K (insS c ns g) (fun _ : Unit => []) SR m [.ref p0] H Q E0
    rw [← hK]
    obtain ⟨B, io, g1, g2⟩ := ER.enterI (σa := []) (ea := []) (σ := σs ++ σ) (env := es ++ env) (i := es.length + i) (v0 := .ref p0) h rfl .nil (by rw [at_app _ rfl]; exact h0) (by rw [at_app _ hl]; exact e1)
    refine ⟨B, F, io, t0, (), r, t', .ref p0, [], rfl, hm', rfl, g1, fun F2 H2 v h3 => ?_⟩
    obtain ⟨F3, h4⟩ := g2 R SR r t' F2 H2 v h3
    rw [List.set_append_right _ _ (Nat.le_add_right _ _), Nat.add_sub_cancel_left] at h4
    exact q r t' v F3 H2 hk2 h4)
/-- x.f(..), f reads x -/
theorem lx_methL {w : Option V} {t0 : T} {t : Pt → T} {m : T → A → Option R} {fa : (A → Pt → Option Ω) → Option Ω} {pl : Sem Bool} (i : Nat) (cl : Cls X.K c) (hm : Meth X.K c mn f) (Fn : FnOk X.prog X.w X.K X.mg X.base CX0 k f fd ps (spL X.K (insS c ns g) sl SR m)) (hr : Room k X.A) (hb : Binds X.K fd ps []) (sh : ∀ a, ShE (sl a))
    (h0 : env[i]? = some (.st w T (insS c ns g) t0)) (ha : LA X env (e :: xs) sl e' fa) (h1 : ∀ p, (e' p)[i]? = some (.st w T (insS c ns g) (t p))) (hno : mn ∉ ns := by decide +kernel) (hN : X.N[i]? = some vn := by rfl) (hv : Vis X.env.scope vn := by first | exact Or.inl rfl | exact Or.inr (Or.inl rfl) | exact Or.inr (Or.inr rfl)) (hd : (vn == ("__debug__" : Str)) = false := by decide) (hcd : (vn == ("__classdict__" : Str)) = false := by decide)
    (he : starEach (e :: xs) X.env = (false, eval e X.env) :: starEach xs X.env := by rfl) (hpl : (backTo pos (starEach xs X.env)).any (·.1) = false := by rfl) (ht : eval (.Call (.Attribute (.Name vn vp) mn ap) (e :: xs) [] pos) X.env = (do let ov ← eval (.Name vn vp) X.env; standAt ap.atName; let (f, first) ← holding [ov] (getMethod ov mn pl); callWith pos f first (backTo pos (starEach (e :: xs) X.env)) (backToKw pos (keywordEach [] X.env))) := by rfl) :
    LX X env (.Call (.Attribute (.Name vn vp) mn ap) (e :: xs) [] pos) SR e' (fun k => fa fun a p => (m (t p) a).bind fun r => k r p) :=
  fun C F H σs es σ k ω Q hK hl h hk' q => tE.of X (pe_meth (pe_var hN hv hd hcd) cl hm Fn hr hb .nil pass0 (paC X) he hpl ht) (by
    obtain ⟨v0, fp, e1, r⟩ := h.lookF hl h0
    obtain ⟨p0, dx, vs0, rfl, hp, hlen, ra, rfl⟩ := r
    refine ⟨.ref p0, e1, p0, dx, _, rfl, hp, zip_no hno, ha C F H σs es σ _ ω _ hK hl h hk' fun a p vs F' H' hk2 hlv h' => ?_⟩
    obtain ⟨r, hm', hk2⟩ := bind_some hk2
    show spL X.K (insS c ns g) sl SR m (.ref p0 :: vs ++ []) H' Q _
    rw [List.append_nil, ← hK]
    have h2 : ER C F' H' (vs.map some ++ (σs ++ σ)) (sl a ++ (es ++ e' p)) := h'
    refine ⟨H', F', t p, a, r, .ref p0, vs, rfl, hm', hlv, h2.enterL (i := es.length + i) hlv (sh a) (by rw [at_app _ rfl]; exact h1 p) (by rw [at_app _ hl]; exact e1), fun F2 H2 v h3 => ?_⟩
    obtain ⟨F3, h4⟩ := (h'.popN hlv).back h3
    exact q r p v F3 H2 hk2 h4)
theorem lx_methL0 {w : Option V} {t0 : T} {m : T → Unit → Option R} {pl : Sem Bool} (i : Nat) (cl : Cls X.K c) (hm : Meth X.K c mn f) (Fn : FnOk X.prog X.w X.K X.mg X.base CX0 k f fd ps (spL X.K (insS c ns g) (fun _ : Unit => []) SR m)) (hr : Room k X.A) (hb : Binds X.K fd ps [])
    (h0 : env[i]? = some (.st w T (insS c ns g) t0)) (hno : mn ∉ ns := by decide +kernel) (hN : X.N[i]? = some vn := by rfl) (hv : Vis X.env.scope vn := by first | exact Or.inl rfl | exact Or.inr (Or.inl rfl) | exact Or.inr (Or.inr rfl)) (hd : (vn == ("__debug__" : Str)) = false := by decide) (hcd : (vn == ("__classdict__" : Str)) = false := by decide) (ht : eval (.Call (.Attribute (.Name vn vp) mn ap) [] [] pos) X.env = (do let ov ← eval (.Name vn vp) X.env; standAt ap.atName; let (f, first) ← holding [ov] (getMethod ov mn pl); callWith pos f first (backTo pos (starEach [] X.env)) (backToKw pos (keywordEach [] X.env))) := by rfl) :
    LX X env (.Call (.Attribute (.Name vn vp) mn ap) [] [] pos) SR (fun _ : Unit => env) (fun (k : R → Unit → Option Ω) => (m t0 ()).bind fun r => k r ()) :=
  fun C F H σs es σ k ω Q hK hl h hk' q => tE.of X (pe_meth0 (pe_var hN hv hd hcd) cl hm Fn hr hb .nil pass0 ht) (by
    obtain ⟨v0, fp, e1, r⟩ := h.lookF hl h0
    obtain ⟨p0, dx, vs0, rfl, hp, hlen, ra, rfl⟩ := r
    refine ⟨.ref p0, e1, p0, dx, _, rfl, hp, zip_no hno, ?_⟩
    obtain ⟨r, hm', hk2⟩ := bind_some hk'
    show spL X.K (insS c ns g) (fun _ : Unit => []) SR m [.ref p0] H Q E0
    rw [← hK]
    refine ⟨H, F, t0, (), r, .ref p0, [], rfl, hm', rfl, ER.enterL (σa := []) (ea := []) (σ := σs ++ σ) (env := es ++ env) (i := es.length + i) h rfl .nil (by rw [at_app _ rfl]; exact h0) (by rw [at_app _ hl]; exact e1), fun F2 H2 v h3 => ?_⟩
    obtain ⟨F3, h4⟩ := h.back h3
    exact q r () v F3 H2 hk2 h4)
/-- .. x lent itself -/
theorem lx_methK {t0 : T} {m : T → A → Option R} {fa : (A → Pt → Option Ω) → Option Ω} {pl : Sem Bool} (i : Nat) (cl : Cls X.K c) (hm : Meth X.K c mn f) (Fn : FnOk X.prog X.w X.K X.mg X.base CX0 k f fd ps (spL X.K (insS c ns g) sl SR m)) (hr : Room k X.A) (hb : Binds X.K fd ps []) (sh : ∀ a, ShE (sl a))
    (h0 : env[i]? = some (.lk T (insS c ns g) t0)) (ha : LA X env (e :: xs) sl e' fa) (h1 : ∀ p, (e' p)[i]? = some (.lk T (insS c ns g) t0)) (hno : mn ∉ ns := by decide +kernel) (hN : X.N[i]? = some vn := by rfl) (hv : Vis X.env.scope vn := by first | exact Or.inl rfl | exact Or.inr (Or.inl rfl) | exact Or.inr (Or.inr rfl)) (hd : (vn == ("__debug__" : Str)) = false := by decide) (hcd : (vn == ("__classdict__" : Str)) = false := by decide)
    (he : starEach (e :: xs) X.env = (false, eval e X.env) :: starEach xs X.env := by rfl) (hpl : (backTo pos (starEach xs X.env)).any (·.1) = false := by rfl) (ht : eval (.Call (.Attribute (.Name vn vp) mn ap) (e :: xs) [] pos) X.env = (do let ov ← eval (.Name vn vp) X.env; standAt ap.atName; let (f, first) ← holding [ov] (getMethod ov mn pl); callWith pos f first (backTo pos (starEach (e :: xs) X.env)) (backToKw pos (keywordEach [] X.env))) := by rfl) :
    LX X env (.Call (.Attribute (.Name vn vp) mn ap) (e :: xs) [] pos) SR e' (fun k => fa fun a p => (m t0 a).bind fun r => k r p) :=
  fun C F H σs es σ k ω Q hK hl h hk' q => tE.of X (pe_meth (pe_var hN hv hd hcd) cl hm Fn hr hb .nil pass0 (paC X) he hpl ht) (by
    obtain ⟨v0, fp, e1, r⟩ := h.lookKF hl h0
    obtain ⟨p0, dx, vs0, rfl, hp, hlen, ra, rfl⟩ := r
    refine ⟨.ref p0, e1, p0, dx, _, rfl, hp, zip_no hno, ha C F H σs es σ _ ω _ hK hl h hk' fun a p vs F' H' hk2 hlv h' => ?_⟩
    obtain ⟨r, hm', hk2⟩ := bind_some hk2
    show spL X.K (insS c ns g) sl SR m (.ref p0 :: vs ++ []) H' Q _
    rw [List.append_nil, ← hK]
    have h2 : ER C F' H' (vs.map some ++ (σs ++ σ)) (sl a ++ (es ++ e' p)) := h'
    refine ⟨H', F', t0, a, r, .ref p0, vs, rfl, hm', hlv, h2.enterLK (i := es.length + i) hlv (sh a) (by rw [at_app _ rfl]; exact h1 p) (by rw [at_app _ hl]; exact e1), fun F2 H2 v h3 => ?_⟩
    obtain ⟨F3, h4⟩ := (h'.popN hlv).back h3
    exact q r p v F3 H2 hk2 h4)
theorem lx_methK0 {t0 : T} {m : T → Unit → Option R} {pl : Sem Bool} (i : Nat) (cl : Cls X.K c) (hm : Meth X.K c mn f) (Fn : FnOk X.prog X.w X.K X.mg X.base CX0 k f fd ps (spL X.K (insS c ns g) (fun _ : Unit => []) SR m)) (hr : Room k X.A) (hb : Binds X.K fd ps [])
    (h0 : env[i]? = some (.lk T (insS c ns g) t0)) (hno : mn ∉ ns := by decide +kernel) (hN : X.N[i]? = some vn := by rfl) (hv : Vis X.env.scope vn := by first | exact Or.inl rfl | exact Or.inr (Or.inl rfl) | exact Or.inr (Or.inr rfl)) (hd : (vn == ("__debug__" : Str)) = false := by decide) (hcd : (vn == ("__classdict__" : Str)) = false := by decide) (ht : eval (.Call (.Attribute (.Name vn vp) mn ap) [] [] pos) X.env = (do let ov ← eval (.Name vn vp) X.env; standAt ap.atName; let (f, first) ← holding [ov] (getMethod ov mn pl); callWith pos f first (backTo pos (starEach [] X.env)) (backToKw pos (keywordEach [] X.env))) := by rfl) :
    LX X env (.Call (.Attribute (.Name vn vp) mn ap) [] [] pos) SR (fun _ : Unit => env) (fun (k : R → Unit → Option Ω) => (m t0 ()).bind fun r => k r ()) :=
  fun C F H σs es σ k ω Q hK hl h hk' q => tE.of X (pe_meth0 (pe_var hN hv hd hcd) cl hm Fn hr hb .nil pass0 ht) (by
    obtain ⟨v0, fp, e1, r⟩ := h.lookKF hl h0
    obtain ⟨p0, dx, vs0, rfl, hp, hlen, ra, rfl⟩ := r
    refine ⟨.ref p0, e1, p0, dx, _, rfl, hp, zip_no hno, ?_⟩
    obtain ⟨r, hm', hk2⟩ := bind_some hk'
    show spL X.K (insS c ns g) (fun _ : Unit => []) SR m [.ref p0] H Q E0
    rw [← hK]
    refine ⟨H, F, t0, (), r, .ref p0, [], rfl, hm', rfl, ER.enterLK (σa := []) (ea := []) (σ := σs ++ σ) (env := es ++ env) (i := es.length + i) h rfl .nil (by rw [at_app _ rfl]; exact h0) (by rw [at_app _ hl]; exact e1), fun F2 H2 v h3 => ?_⟩
    obtain ⟨F3, h4⟩ := h.back h3
    exact q r () v F3 H2 hk2 h4)
end
/-! ### making an instance -/
def insN (c : Addr) : Stor Unit := insS c [] fun _ : Unit => []
/-- the promise of __init__ -/
def spN (K : Fg) (c : Addr) {A T : Type} (sl : A → Env) (ST : Stor T) (m : A → Option T) : Sp := fun vs H Q _ => ∃ (B F : Hp) (io : List Addr) (a : A) (t : T) (v0 : V) (vs' : List V), vs = v0 :: vs' ∧ m a = some t ∧ (vs'.map some).length = (sl a).length ∧
  ER ⟨K, B, F, H, io⟩ F H (vs.map some) (.st (some v0) Unit (insN c) () :: sl a) ∧ ∀ F' H' v, ER ⟨K, B, F, H, io⟩ F' H' [some v, some v0] [.st none Unit (it eN) (), .st (some v0) T ST t] → Q v H'
section
variable {P : Program} {w : World} {K : Fg} {mg : Str → Option Value} {base : Heap}
/-- a def without an answer that changes its first argument: its body may end without a return -/
theorem fnI0 {x qual : Str} {st : Stmt} {f : Addr} {fd : FuncData} {N ps : List Str} {k : Nat} {A T : Type} {ST : Stor T} {sl : A → Env} {m : T → A → Option (Unit × T)} (F : Fun K x qual st f fd) (S : FnScope N ps (defScope st)) (n : Nat) (hn : N.length - ps.length = n) (hl : ∀ a, (sl a).length + 1 = ps.length)
    (hb : ∀ (cdv : Value) (A' : Around) (outer : List PySem.Env) (s : Shared) (H : Hp) (E : XK), Room k (A'.deeper (envOfC qual (defScope st) s.heap.objs.size f cdv)) → ∀ (v0 : V) (t : T) (a : A),
      ∃ f0 : (T → Option (Unit × T)) → Option (Unit × T), LB (cxOf CX0 P w K mg base N qual (defScope st) f cdv A' outer s H E).nox (it eN) (fun t' : T => .st (some v0) T ST t' :: List.replicate (N.length - 1) .un) (fun (r : Unit) (t' : T) => some (r, t')) (noLp (Unit × T)) (noLp (Unit × T)) (.st (some v0) T ST t :: (sl a ++ List.replicate n .un)) (defBody st) (fun t' : T => .st (some v0) T ST t' :: List.replicate (N.length - 1) .un) f0 ∧ f0 (fun t' => some ((), t')) = m t a) :
    FnOk P w K mg base CX0 (k + 1) f fd ps (spI K ST sl (it eN) m) := by
  have hlen : ∀ vs H Q E, spI K ST sl (it eN) m vs H Q E → vs.length = ps.length := fun vs H Q E h => by
    obtain ⟨B, F0, io, t, a, r, t', v0, vs', rfl, _, h2, _⟩ := h
    rw [List.length_map] at h2; rw [List.length_cons, h2, hl a]
  refine F.ok S hlen fun cdv A' outer s H vs Q E hr h => ?_
  have hlv := hlen vs H Q E h
  obtain ⟨B, F0, io, t, a, r, t', v0, vs', rfl, hm, _, her, q⟩ := h
  refine ⟨_, pssC _, ?_⟩
  have hst : L2.start N (v0 :: vs') = (v0 :: vs').map some ++ List.replicate n none := by unfold L2.start; rw [hlv, hn]
  rw [hst]
  obtain ⟨f0, hf, ef⟩ := hb cdv A' outer s H E hr v0 t a
  have fin : ∀ (i : T) v F' H' (σ' : List (Option V)), ER ⟨K, B, F0, H, io⟩ F' H' (some v :: σ') (.st none Unit (it eN) () :: .st (some v0) T ST i :: List.replicate (N.length - 1) .un) → i = t' → Q v H' := fun i v F' H' σ' h3 e => by
    subst e
    have hls : σ'.length = N.length - 1 + 1 := by have := h3.len; simpa using this
    cases σ' with
    | nil => simp at hls
    | cons o σ' =>
      have ho : o = some v0 := by
        obtain ⟨fp, qq⟩ := h3.sl
        obtain ⟨v', e1, _, e2⟩ := qq.ok 1 _ rfl
        simp at e1
        rw [e1, e2.1]
      subst ho
      exact q F' H' v h3.head2
  refine hf ⟨K, B, F0, H, io⟩ F0 H [] [] _ (fun t' => some ((), t')) ((), t') { nx := fun _ H' => Q .non H', rt := Q } rfl rfl (her.padR n) (ef.trans hm) (fun i F' H' σ' e h' => ?_) (fun z => z.elim) (fun z => z.elim) ?_
  · exact fin i .non F' H' σ' (ER.pushSh (E := eN) (x := ()) h' .non) (by cases e; rfl)
  · intro a' i v F' H' σ' e h'
    exact fin i v F' H' σ' h' (by cases e; rfl)
/-- __init__ -/
theorem fnN {x qual : Str} {st : Stmt} {f c : Addr} {fd : FuncData} {N ps : List Str} {k : Nat} {A T : Type} {ST : Stor T} {sl : A → Env} {m : A → Option T} (F : Fun K x qual st f fd) (S : FnScope N ps (defScope st)) (n : Nat) (hn : N.length - ps.length = n) (hl : ∀ a, (sl a).length + 1 = ps.length)
    (hb : ∀ (cdv : Value) (A' : Around) (outer : List PySem.Env) (s : Shared) (H : Hp) (E : XK), Room k (A'.deeper (envOfC qual (defScope st) s.heap.objs.size f cdv)) → ∀ (v0 : V) (a : A),
      ∃ f0 : (T → Option T) → Option T, LB (cxOf CX0 P w K mg base N qual (defScope st) f cdv A' outer s H E).nox (it eN) (fun t' : T => .st (some v0) T ST t' :: List.replicate (N.length - 1) .un) (fun (_ : Unit) (t' : T) => some t') (noLp T) (noLp T) (.st (some v0) Unit (insN c) () :: (sl a ++ List.replicate n .un)) (defBody st) (fun t' : T => .st (some v0) T ST t' :: List.replicate (N.length - 1) .un) f0 ∧ f0 some = m a) :
    FnOk P w K mg base CX0 (k + 1) f fd ps (spN K c sl ST m) := by
  have hlen : ∀ vs H Q E, spN K c sl ST m vs H Q E → vs.length = ps.length := fun vs H Q E h => by
    obtain ⟨B, F0, io, a, t, v0, vs', rfl, _, h2, _⟩ := h
    rw [List.length_map] at h2; rw [List.length_cons, h2, hl a]
  refine F.ok S hlen fun cdv A' outer s H vs Q E hr h => ?_
  have hlv := hlen vs H Q E h
  obtain ⟨B, F0, io, a, t', v0, vs', rfl, hm, _, her, q⟩ := h
  refine ⟨_, pssC _, ?_⟩
  have hst : L2.start N (v0 :: vs') = (v0 :: vs').map some ++ List.replicate n none := by unfold L2.start; rw [hlv, hn]
  rw [hst]
  obtain ⟨f0, hf, ef⟩ := hb cdv A' outer s H E hr v0 a
  have fin : ∀ (i : T) v F' H' (σ' : List (Option V)), ER ⟨K, B, F0, H, io⟩ F' H' (some v :: σ') (.st none Unit (it eN) () :: .st (some v0) T ST i :: List.replicate (N.length - 1) .un) → i = t' → Q v H' := fun i v F' H' σ' h3 e => by
    subst e
    have hls : σ'.length = N.length - 1 + 1 := by have := h3.len; simpa using this
    cases σ' with
    | nil => simp at hls
    | cons o σ' =>
      have ho : o = some v0 := by
        obtain ⟨fp, qq⟩ := h3.sl
        obtain ⟨v', e1, _, e2⟩ := qq.ok 1 _ rfl
        simp at e1
        rw [e1, e2.1]
      subst ho
      exact q F' H' v h3.head2
  refine hf ⟨K, B, F0, H, io⟩ F0 H [] [] _ some t' { nx := fun _ H' => Q .non H', rt := Q } rfl rfl (her.padR n) (ef.trans hm) (fun i F' H' σ' e h' => ?_) (fun z => z.elim) (fun z => z.elim) ?_
  · exact fin i .non F' H' σ' (ER.pushSh (E := eN) (x := ()) h' .non) (by cases e; rfl)
  · intro a' i v F' H' σ' e h'
    exact fin i v F' H' σ' h' (by cases e; rfl)
end
section
variable {X : Cx} {Ω : Type} {env : Env} {nm : Str} {pos np : Pos} {e : Expr} {xs : List Expr} {Pt A T : Type} {ST : Stor T} {e' : Pt → Env} {sl : A → Env} {k : Nat} {f c : Addr} {fd : FuncData} {ps : List Str}
/-- into __init__ -/
theorem ER.make {C : Ck} {F H : Hp} {σ : List (Option V)} {env : Env} {σa : List (Option V)} {ea : Env} {p dx : Addr} (h : ER C F H (σa ++ σ) (ea ++ env)) (hl : σa.length = ea.length) (sh : ShE ea) (np : H p = none) (nd : H dx = none) (ne : dx ≠ p) :
    ∃ B io, ER ⟨C.K, B, F, upd (upd H dx (.own p)) p (.ins c dx []), io⟩ F (upd (upd H dx (.own p)) p (.ins c dx [])) (some (.ref p) :: σa) (.st (some (.ref p)) Unit (insN c) () :: ea) ∧ ∀ (T : Type) (ST : Stor T) (t : T) (F' H' : Hp) (v : V), ER ⟨C.K, B, F, upd (upd H dx (.own p)) p (.ins c dx []), io⟩ F' H' [some v, some (.ref p)] [.st none Unit (it eN) (), .st (some (.ref p)) T ST t] →
      v = .non ∧ ∃ F'', ER C F'' H' (some (.ref p) :: σ) (.st none T ST t :: env) := by
  have h2 := h.newH (u := .own p) nd
  have np2 : upd H dx (.own p) p = none := by rw [upd_ne (fun z => ne z.symm)]; exact np
  have s3 : Same (upd H dx (.own p)) (upd (upd H dx (.own p)) p (.ins c dx [])) := same_new np2
  have he := h2.enter hl sh
  obtain ⟨fe, qe⟩ := he.sl
  refine ⟨upd H dx (.own p), [p], ⟨s3, fun a o e => s3 a o (h2.sF a o e), fun a m => .inl m, fun a m => m, by simp [hl], _, Fps.push (fp := fun _ => []) ⟨fun j s e => ?_, fun j hj a ha => (nomatch ha), fun j l _ _ a ha => (nomatch ha), fun j _ => List.nodup_nil⟩ (fq := [p]) ⟨.ref p, rfl, ⟨p, dx, [], rfl, upd_same, rfl, .nil, rfl⟩, rfl, fun a m => .inr m⟩ (fun a m => ?_) (by simp) fun j _ a ha => (nomatch ha)⟩, ?_⟩
  · obtain ⟨τ, S, x, rfl, cp⟩ := sh.slot j s e
    obtain ⟨v, e1, r, _⟩ := qe.ok j _ e
    have z := cp.nil r
    rw [z] at r
    exact ⟨v, e1, S.frame (fun a m => nomatch m) r, fun _ m => nomatch m⟩
  · simp at m; subst m
    exact ⟨np2, h2.fnone np2, by rw [upd_same]; exact fun z => by cases z⟩
  · intro T ST t F' H' v hc
    obtain ⟨fc, qc⟩ := hc.sl
    obtain ⟨v1, ev1, r1, n1⟩ := qc.ok 0 _ rfl
    simp at ev1; subst ev1
    have hv : v = .non := by
      obtain ⟨_, r1⟩ := r1
      cases r1; rfl
    refine ⟨hv, ?_⟩
    have n3 : ∀ a, upd (upd H dx (.own p)) p (.ins c dx []) a = none → upd H dx (.own p) a = none := fun a e => by
      by_cases z : a = p
      · rw [z, upd_same] at e; cases e
      · rw [upd_ne z] at e; exact e
    have hp : ER ⟨C.K, upd H dx (.own p), F, upd (upd H dx (.own p)) p (.ins c dx []), [p]⟩ F' H' [some (.ref p)] [.st (some (.ref p)) T ST t] := hc.pop
    obtain ⟨fq, qq⟩ := hp.sl
    obtain ⟨v2, ev2, r2, n2⟩ := qq.ok 0 _ rfl
    simp at ev2; subst ev2
    have hq : ER ⟨C.K, upd H dx (.own p), F, upd H dx (.own p), []⟩ F' H' [some (.ref p)] [.st none T ST t] := by
      refine ⟨hc.sB, hc.sF, fun a m => (hc.gr a m).imp id (n3 a), fun a m => hc.up a (same_some s3 m), rfl, fq, fun j s e => ?_, fun j hj => qq.own j (by simpa using hj), fun j l hj hl => qq.sep j l (by simpa using hj) (by simpa using hl), fun j hj => qq.nd j (by simpa using hj)⟩
      match j, e with
      | 0, e =>
        simp at e; subst e
        refine ⟨.ref p, rfl, r2, fun a m => ?_⟩
        rcases n2.2 a m with z | z
        · exact n3 a z
        · simp at z; subst z; exact np2
      | j + 1, e => simp at e
    exact (h2.popN hl).back hq
/-- C(..) -/
theorem lx_make {m : A → Option T} {fa : (A → Pt → Option Ω) → Option Ω} (M : Mk X.K c f) (Fn : FnOk X.prog X.w X.K X.mg X.base CX0 k f fd ps (spN X.K c sl ST m)) (hr : Room (k + 1) X.A) (hm : X.mg nm = some (.ref c)) (hb : Binds X.K fd ps []) (sh : ∀ a, ShE (sl a))
    (ha : LA X env (e :: xs) sl e' fa) (hg : Gl X nm := by rfl) (hdb : (nm == ("__debug__" : Str)) = false := by decide) (he : starEach (e :: xs) X.env = (false, eval e X.env) :: starEach xs X.env := by rfl) (hpl : (backTo pos (starEach xs X.env)).any (·.1) = false := by rfl) :
    LX X env (.Call (.Name nm np) (e :: xs) [] pos) ST e' (fun k => fa fun a p => (m a).bind fun r => k r p) :=
  fun C F H σs es σ k ω Q hK hl h hk' q => tE.of X (pe_make M Fn hr hg hm hb .nil pass0 (paC X) hdb he hpl) (ha C F H σs es σ _ ω _ hK hl h hk' fun a p vs F' H' hk2 hlv h' => by
    obtain ⟨r, hm', hk2⟩ := bind_some hk2
    intro x dx nx ndx ne
    show spN X.K c sl ST m (.ref x :: (vs ++ [])) _ _ _
    rw [List.append_nil, ← hK]
    obtain ⟨B, io, g1, g2⟩ := h'.make (c := c) hlv (sh a) nx ndx ne
    refine ⟨B, F', io, a, r, .ref x, vs, rfl, hm', hlv, g1, fun F2 H2 v h3 => ?_⟩
    obtain ⟨hv, F3, h4⟩ := g2 T ST r F2 H2 v h3
    exact ⟨hv, q r p (.ref x) F3 H2 hk2 h4⟩)
end
end Z
namespace Z
open PySem PySem.Spec PyProof.Rows L2
/-! ### a def that calls itself: by the number of calls -/
theorem fnZ {P : Program} {w : World} {K : Fg} {mg : Str → Option Value} {base : Heap} {k : Nat} {f : Addr} {fd : FuncData} {ps : List Str} {sp : Sp} (no : ∀ vs H Q E, ¬ sp vs H Q E) : FnOk P w K mg base CX0 k f fd ps sp :=
  ⟨fun vs H Q E h => absurd h (no vs H Q E), fun A outer s H args us vs Q E _ _ _ _ h => absurd h (no vs H Q E)⟩
theorem spP_no {K : Fg} {A R : Type} {sl : A → Env} {SR : Stor R} {m : A → Option R} (h : ∀ a, m a = none) : ∀ vs H Q E, ¬ spP K sl SR m vs H Q E := fun vs H Q E z => by
  obtain ⟨_, _, a, r, e, _⟩ := z
  rw [h a] at e; cases e
theorem spI_no {K : Fg} {A T R : Type} {ST : Stor T} {sl : A → Env} {SR : Stor R} {m : T → A → Option (R × T)} (h : ∀ t a, m t a = none) : ∀ vs H Q E, ¬ spI K ST sl SR m vs H Q E := fun vs H Q E z => by
  obtain ⟨_, _, _, t, a, r, _, _, _, _, e, _⟩ := z
  rw [h t a] at e; cases e
theorem spL_no {K : Fg} {A T R : Type} {ST : Stor T} {sl : A → Env} {SR : Stor R} {m : T → A → Option R} (h : ∀ t a, m t a = none) : ∀ vs H Q E, ¬ spL K ST sl SR m vs H Q E := fun vs H Q E z => by
  obtain ⟨_, _, t, a, r, _, _, _, e, _⟩ := z
  rw [h t a] at e; cases e
end Z

set_option Elab.async false
set_option linter.all false
set_option maxRecDepth 100000
namespace Z
open PySem PySem.Spec PyProof.Rows L2
/-! ### lent lists are walked -/
theorem ER.lkB {C : Ck} {F H : Hp} {σ : List (Option V)} {env : Env} {i : Nat} {τ : Type} {S : Stor τ} {ys : List τ} (h : ER C F H σ env) (e : env[i]? = some (.lk (List τ) (ls S) ys)) : ∃ q vs fps, σ[i]? = some (some (V.ref q)) ∧ C.B q = some (.lst vs) ∧ H q = some (.lst vs) ∧ RelAll (S.rel C.K F H) fps vs ys ∧ ∀ a ∈ fps, C.B a ≠ none := by
  obtain ⟨fp, k⟩ := h.sl
  obtain ⟨_, v, fq, e1, r, hB⟩ := k.ok i _ e
  obtain ⟨q, vs, fps, rfl, hq, ra, rfl⟩ := r
  have b1 := hB q List.mem_cons_self
  refine ⟨q, vs, fps, ?_, by rw [← same_eq h.sB b1]; exact hq, hq, ra, fun a m => hB a (List.mem_cons_of_mem _ m)⟩
  cases z : σ[i]? with
  | none => rw [z] at e1; cases e1
  | some o => rw [z] at e1; exact congrArg some e1
section
variable {X : Cx} {Ω : Type} {env : Env} {nm : Str} {pos np : Pos} {α : Type} {E : Enc α} {ys : List α}
/-- enumerate(x), x a lent list -/
theorem li_enK {elts : List Expr} {kk : Nat} {tp p : Pos} (i : Nat) (h0 : env[i]? = some (.lk (List α) (ls (it E)) ys)) (hm : X.mg "enumerate" = none) (hg : Gl X "enumerate" := by rfl) (hN : X.N[i]? = some nm := by rfl) (hv : Vis X.env.scope nm := by first | exact Or.inl rfl | exact Or.inr (Or.inl rfl) | exact Or.inr (Or.inr rfl)) (hd : (nm == ("__debug__" : Str)) = false := by decide) (hcd : (nm == ("__classdict__" : Str)) = false := by decide)
    (hs : starEach [.Name nm np] X.env = [(false, eval (.Name nm np) X.env)] := by rfl) (hs4 : starEach [.Name nm np] X.env = (false, eval (.Name nm np) X.env) :: starEach [] X.env := by rfl) :
    LI X env (.Tuple elts kk tp) (.Call (.Name "enumerate" p) [.Name nm np] [] pos) (it (eT2 eI E)) (fun _ : Unit => env) (fun (k : List (Int × α) → Unit → Option Ω) => k (enumL ys) ()) :=
  fun C F H σs es σ k ω R hK hl hr hk q => tI.of X (pi_enum hg hm (pa_cons (pe_var hN hv hd hcd) pa_nil hs4) hs) (by
    obtain ⟨p0, vs, fps, e1, hB, hH, ra, hb⟩ := hr.lkB (i := es.length + i) (by rw [at_app _ rfl]; exact h0)
    rw [at_app _ hl] at e1
    have h' : ER C F H (some (.ref p0) :: (σs ++ σ)) (.lk (List α) (ls (it E)) ys :: (es ++ env)) := hr.push0 ⟨rfl, .ref p0, p0 :: fps, rfl, ⟨p0, vs, fps, rfl, hH, ra, rfl⟩, fun a m => by
      rcases List.mem_cons.1 m with rfl | m
      · rw [hB]; exact fun z => by cases z
      · exact hb a m⟩
    refine ⟨_, e1, p0, vs, rfl, SqL.of hH, q (enumL ys) () (Ite X.K p0) F H [some (.ref p0)] [.lk (List α) (ls (it E)) ys] hk h' ⟨rfl, fun i F2 H2 σ2 σb e2 eb hl2 h2 => ?_⟩⟩
    obtain ⟨p1, ws, fps', e3, _, hq2, ra', _⟩ := h2.lkB (i := e2.length + 0) (by rw [at_app _ rfl]; rfl)
    rw [at_app _ hl2] at e3
    simp at e3; subst e3
    have hs' : SqL X.K H2 p0 ws := SqL.of hq2
    have rp := ra'.zero.2
    rw [enumL_get]
    refine ⟨fun y hy => ?_, fun hn => ?_⟩
    · cases hgi : ys[i]? with
      | none => rw [hgi] at hy; cases hy
      | some z =>
        rw [hgi] at hy
        cases hy
        obtain ⟨w, hw, rw'⟩ := rp.get (i := i) (d := E.enc z) (by rw [List.getElem?_map, hgi]; rfl)
        refine ⟨⟨ws, w, hs', hw⟩, fun v H' hy' => ?_⟩
        obtain ⟨T, w', rfl, nT, rfl, hy'⟩ := hy'
        have := hy' ws hs'
        rw [hw] at this; cases this
        refine ⟨upd F2 T (.tup [.int (i : Nat), w]), (h2.newF nT).pushSh ?_⟩
        exact .tup (SqT.of upd_same) (.cons (.int _) (.cons (rw'.mono (same_new (h2.fnone nT))) .nil))
    · refine ⟨ws, hs', ?_⟩
      have := rp.length
      simp at this
      cases hgi : ys[i]? with
      | none => have := List.getElem?_eq_none_iff.mp hgi; omega
      | some z => rw [hgi] at hn; cases hn)
end
section
variable {X : Cx} {Ω : Type} {env : Env} {nm ny nr : Str} {pos np p1 p2 p tp : Pos} {α R I J : Type} {E : Enc α} {ys : List (List α)} {SR : Stor R} {envR : I → Env} {kr : R → I → Option Ω} {bk ct : Lp Ω} {rest sts : List Stmt} {envJ : J → Env} {kk : Nat}
/-- for y, r in enumerate(x), x a lent list of lists: each r is lent -/
theorem lb_forEK {T : Type} {envT : T → Env} {fb : Int × List α → T → (T → Option Ω) → (T → Option Ω) → (T → Option Ω) → Option Ω} {fr : T → (J → Option Ω) → Option Ω} {fp : Pos} (i iy ir : Nat) (hm : X.mg "enumerate" = none)
    (hp : PassesOwn (model X.prog X.w) X.A X.env X.xe) (hc : X.calm = true) (h0 : env[i]? = some (.lk (List (List α)) (ls (ls (it E))) ys)) (t0 : T) (hs0 : Sub env (envT t0)) (hNd : X.N.Nodup)
    (hb : ∀ x t kc kb, LB X SR envR kr ⟨T, envT, kb⟩ ⟨T, envT, kc⟩ (((envT t).set iy (.st none Int (it eI) x.1)).set ir (.lk (List α) (ls (it E)) x.2)) sts envT (fun kn => fb x t kn kc kb)) (hr : ∀ t, LB X SR envR kr bk ct (envT t) rest envJ (fr t))
    (hly : ∀ t, iy < (envT t).length := by exact (fun _ => Nat.lt_of_sub_eq_succ rfl)) (hlr : ∀ t, ir < (envT t).length := by exact (fun _ => Nat.lt_of_sub_eq_succ rfl))
    (hiy : X.N[iy]? = some ny := by rfl) (hxy : Loc X.env.scope ny := by first | exact Or.inl rfl | exact Or.inr rfl) (hfy : X.fn ny = true ∨ X.env.scope.names.lookup ny = some .local := by first | exact .inl rfl | exact .inr rfl)
    (hir : X.N[ir]? = some nr := by rfl) (hxr : Loc X.env.scope nr := by first | exact Or.inl rfl | exact Or.inr rfl) (hfr : X.fn nr = true ∨ X.env.scope.names.lookup nr = some .local := by first | exact .inl rfl | exact .inr rfl)
    (hg : Gl X "enumerate" := by rfl) (hN : X.N[i]? = some nm := by rfl) (hv : Vis X.env.scope nm := by first | exact Or.inl rfl | exact Or.inr (Or.inl rfl) | exact Or.inr (Or.inr rfl)) (hd : (nm == ("__debug__" : Str)) = false := by decide) (hcd : (nm == ("__classdict__" : Str)) = false := by decide)
    (hs : starEach [.Name nm np] X.env = [(false, eval (.Name nm np) X.env)] := by rfl) (hs4 : starEach [.Name nm np] X.env = (false, eval (.Name nm np) X.env) :: starEach [] X.env := by rfl)
    (hf : ∀ x, foldedSetIterable (.Call (.Name "enumerate" p) [.Name nm np] [] pos) X.env x = pure x := by intro _; rfl)
    (ha1 : (assignEach [Expr.Name ny p1, Expr.Name nr p2] X.env).map (·.2) = assign (.Name ny p1) X.env :: (assignEach [Expr.Name nr p2] X.env).map (·.2) := by rfl) (ha2 : (assignEach [Expr.Name nr p2] X.env).map (·.2) = assign (.Name nr p2) X.env :: (assignEach [] X.env).map (·.2) := by rfl)
    (hn : (assignEach [Expr.Name ny p1, Expr.Name nr p2] X.env).length = 2 := by rfl) (hst : (assignEach [Expr.Name ny p1, Expr.Name nr p2] X.env).findIdx? (·.1) = none := by rfl) :
    LB X SR envR kr bk ct env (.For (.Tuple [.Name ny p1, .Name nr p2] kk tp) (.Call (.Name "enumerate" p) [.Name nm np] [] pos) sts [] fp :: rest) envJ (fun kn => forO (enumL ys) t0 (fun x t kc => fb x t kc kc fun t' => fr t' kn) fun t' => fr t' kn) :=
  fun C F H σs es σ kn ω D hK hl h hk qn qb qc qr => tSs.of X (pss_cons (ps_for hp hc (pi_enum hg hm (pa_cons (pe_var hN hv hd hcd) pa_nil hs4) hs) (pg_tup hc (pgs_cons (pg_name hNd hiy hxy hfy) (pgs_cons (pg_name hNd hir hxr hfr) pgs_nil ha2) ha1) hn hst) (pssC X) hf) (pssC X)) (by
    obtain ⟨q, vs, fps, e1, hB, hH, ra, hb0⟩ := h.lkB (i := es.length + i) (by rw [at_app _ rfl]; exact h0)
    rw [at_app _ hl] at e1
    have h' : ER C F H ([some (.ref q)] ++ (σs ++ σ)) ([.lk (List (List α)) (ls (ls (it E))) ys] ++ (es ++ env)) := h.push0 ⟨rfl, .ref q, q :: fps, rfl, ⟨q, vs, fps, rfl, hH, ra, rfl⟩, fun a m => by
      rcases List.mem_cons.1 m with rfl | m
      · rw [hB]; exact fun z => by cases z
      · exact hb0 a m⟩
    refine ⟨_, e1, q, vs, rfl, SqL.of hH, ?_⟩
    have out : ∀ t F2 H2 σ2, fr t kn = some ω → ER C F2 H2 ([some (.ref q)] ++ (σs ++ σ2)) ([.lk (List (List α)) (ls (ls (it E))) ys] ++ (es ++ envT t)) → tSs X rest D σ2 H2 := fun t F2 H2 σ2 hk2 h2 =>
      hr t C F2 H2 σs es σ2 kn ω D hK hl h2.pop hk2 qn qb qc qr
    refine ⟨fun j m σ2 H2 => m = (enumL ys).length - j ∧ j ≤ (enumL ys).length ∧ ∃ t F2, ER C F2 H2 ([some (.ref q)] ++ (σs ++ σ2)) ([.lk (List (List α)) (ls (ls (it E))) ys] ++ (es ++ envT t)) ∧ forO ((enumL ys).drop j) t (fun x t kc => fb x t kc kc fun t' => fr t' kn) (fun t' => fr t' kn) = some ω,
      ⟨(enumL ys).length, by simp, Nat.zero_le _, t0, F, h'.sub ((hs0.pre es).pre _), by simpa using hk⟩, ?_⟩
    rintro j m σ2 H2 ⟨rfl, hj, t, F2, h2, hk2⟩
    obtain ⟨q', ws, fps2, e3, hB2, hq2, ra2, hb2⟩ := h2.lkB (i := 0) rfl
    simp at e3; subst e3
    have hs' : SqL X.K H2 q ws := SqL.of hq2
    have hlen := ra2.length
    have hle : (enumL ys).length = ys.length := by unfold enumL; simp
    by_cases hlt : j < (enumL ys).length
    · have hy : ys[j]? = some (ys[j]'(by omega)) := List.getElem?_eq_getElem (by omega)
      have ex1 : (enumL ys)[j]? = some (((j : Nat) : Int), ys[j]'(by omega)) := by rw [enumL_get, hy]; rfl
      have ed : (enumL ys).drop j = (((j : Nat) : Int), ys[j]'(by omega)) :: (enumL ys).drop (j + 1) := by
        rw [List.drop_eq_getElem_cons hlt]
        congr 1
        rw [List.getElem?_eq_getElem hlt] at ex1
        exact Option.some.inj ex1
      rw [ed] at hk2
      obtain ⟨fp1, fq, fp2, w, efp, hvn, rv, _⟩ := ra2.split hy
      refine .inr ⟨⟨ws, w, hs', hvn⟩, fun σ3 H3 => ∃ t F3, ER C F3 H3 ([some (.ref q)] ++ (σs ++ σ3)) ([.lk (List (List α)) (ls (ls (it E))) ys] ++ (es ++ envT t)) ∧ forO ((enumL ys).drop (j + 1)) t (fun x t kc => fb x t kc kc fun t' => fr t' kn) (fun t' => fr t' kn) = some ω,
        fun σ3 H3 ⟨t3, F3, h3, hk3⟩ => ⟨(enumL ys).length - (j + 1), by omega, rfl, hlt, t3, F3, h3, hk3⟩, fun v H3 hv => ?_⟩
      obtain ⟨Tt, w', rfl, nT, rfl, hy'⟩ := hv
      have := hy' ws hs'
      rw [hvn] at this; cases this
      have h3 := h2.newF (u := .tup [.int (j : Nat), w]) nT
      have fqB : ∀ a ∈ fq, C.B a ≠ none := fun a m => hb2 a (by rw [efp]; simp [m])
      have rv3 : (ls (it E)).rel C.K (upd F2 Tt (.tup [.int (j : Nat), w])) (upd H2 Tt (.tup [.int (j : Nat), w])) fq w (ys[j]'(by omega)) := Stor.monoF _ (same_new (h2.fnone nT)) (Stor.frame _ (fun a m => by
        have hb := fqB a m
        have := same_some h2.sB hb
        rw [upd_ne (fun z => by rw [z] at this; exact this nT)]) rv)
      have h4 : ER C (upd F2 Tt (.tup [.int (j : Nat), w])) (upd H2 Tt (.tup [.int (j : Nat), w])) ([some w, some (.ref q)] ++ (σs ++ σ2)) ([.lk (List α) (ls (it E)) (ys[j]'(by omega)), .lk (List (List α)) (ls (ls (it E))) ys] ++ (es ++ envT t)) := h3.push0 ⟨rfl, w, fq, rfl, rv3, fqB⟩
      have h5 : ER C (upd F2 Tt (.tup [.int (j : Nat), w])) (upd H2 Tt (.tup [.int (j : Nat), w])) (some (V.int (j : Nat)) :: (([some w, some (.ref q)] ++ σs) ++ σ2)) (.st none Int (it eI) ((j : Nat) : Int) :: (([.lk (List α) (ls (it E)) (ys[j]'(by omega)), .lk (List (List α)) (ls (ls (it E))) ys] ++ es) ++ envT t)) := by
        have := h4.pushSh (E := eI) (x := ((j : Nat) : Int)) (.int _)
        simpa [List.append_assoc] using this
      have h6 := h5.asg (i := iy) (by simp [hl]) (hly t)
      have h7 : ER C (upd F2 Tt (.tup [.int (j : Nat), w])) (upd H2 Tt (.tup [.int (j : Nat), w])) (some w :: (([some (.ref q)] ++ σs) ++ σ2.set iy (some (V.int (j : Nat))))) (.lk (List α) (ls (it E)) (ys[j]'(by omega)) :: (([.lk (List (List α)) (ls (ls (it E))) ys] ++ es) ++ (envT t).set iy (.st none Int (it eI) ((j : Nat) : Int)))) := by simpa [List.append_assoc] using h6
      have h8 := h7.asg (i := ir) (by simp [hl]) (by rw [List.length_set]; exact hlr t)
      refine ⟨Tt, [.int (j : Nat), w], rfl, .inl (.inl upd_same), rfl, .int (j : Nat), [w], rfl, w, [], rfl, rfl, ?_⟩
      refine hb (((j : Nat) : Int), ys[j]'(by omega)) t (fun s' => forO ((enumL ys).drop (j + 1)) s' (fun x t kc => fb x t kc kc fun t' => fr t' kn) fun t' => fr t' kn) (fun t' => fr t' kn) C _ _ ([some (.ref q)] ++ σs) ([.lk (List (List α)) (ls (ls (it E))) ys] ++ es) _ _ ω _ hK (by simp [hl]) h8 hk2 ?_ ?_ ?_ ?_
      · intro t5 F5 H5 σ5 hk5 h5; exact ⟨t5, F5, by simpa [List.append_assoc] using h5, hk5⟩
      · intro t5 F5 H5 σ5 hk5 h5; exact out t5 F5 H5 σ5 hk5 (by simpa [List.append_assoc] using h5)
      · intro t5 F5 H5 σ5 hk5 h5; exact ⟨t5, F5, by simpa [List.append_assoc] using h5, hk5⟩
      · intro a5 i5 v5 F5 H5 σ5 hk5 h5
        refine qr a5 i5 v5 F5 H5 σ5 hk5 ?_
        have h6 : ER C F5 H5 ([some (.ref q)] ++ (some v5 :: (σs ++ σ5))) ([.lk (List (List α)) (ls (ls (it E))) ys] ++ (.st none R SR a5 :: (es ++ envR i5))) := by
          have z : ER C F5 H5 ([some v5] ++ ([some (.ref q)] ++ (σs ++ σ5))) ([.st none R SR a5] ++ ([.lk (List (List α)) (ls (ls (it E))) ys] ++ (es ++ envR i5))) := by simpa [List.append_assoc] using h5
          exact ER.unrot z rfl
        exact h6.pop
    · have e : j = (enumL ys).length := by omega
      subst e
      refine .inl ⟨⟨ws, hs', by omega⟩, out t F2 H2 σ2 ?_ h2⟩
      simpa [forO] using hk2)
end
section
variable {X : Cx} {Ω : Type} {env : Env} {sp pos : Pos} {a b c : Expr} {τ1 α P1 P2 P3 : Type} {S1 : Stor τ1} {E : Enc α} {G : Env → Prop} {e1 : P1 → Env} {e2 : P1 → P2 → Env} {e3 : P1 → P2 → P3 → Env} {g1 : τ1 → List α} {fa : (τ1 → P1 → Option Ω) → Option Ω}
/-- xs[i:j], xs an operand -/
theorem lx_sl2O {fi : P1 → (Int → P2 → Option Ω) → Option Ω} {fj : P1 → P2 → (Int → P3 → Option Ω) → Option Ω} (hv : LVw S1 (it E) g1) (ha : LO X G env a S1 e1 fa) (hi : ∀ p1, LX X (e1 p1) b (it eI) (e2 p1) (fi p1)) (hj : ∀ p1 p2, LX X (e2 p1 p2) c (it eI) (e3 p1 p2) (fj p1 p2)) (hG : ∀ p1 p2 p3, G (e3 p1 p2 p3)) :
    LX X env (.Subscript a (.Slice (some b) (some c) none sp) pos) (ls (it E)) (fun p : P1 × P2 × P3 => e3 p.1 p.2.1 p.2.2) (fun k => fa fun x p1 => fi p1 fun i p2 => fj p1 p2 fun j p3 => k (cutL (g1 x) (some i) (some j)) (p1, p2, p3)) :=
  fun C F H σs es σ k ω Q hK hl h hk q => tE.of X (pe_slice sl_list (peC X) (po_some (peC X)) (po_some (peC X))) (ha C F H σs es σ _ ω _ hK hl h hk fun x p1 v F1 H1 σx ex hlx hk1 h1 rd => by
    refine hi p1 C F1 H1 (σx ++ σs) (ex ++ es) σ _ ω _ hK (by simp [hl, hlx]) (by simpa [List.append_assoc] using h1) hk1 fun i p2 u F2 H2 hk2 h2 => ?_
    have hu : u = .int i := by
      obtain ⟨v', fp, e1, r⟩ := h2.look (i := 0) rfl
      simp at e1; subst e1
      obtain ⟨_, r⟩ := r
      cases r; rfl
    subst hu
    refine ⟨i, rfl, hj p1 p2 C F2 H2 (σx ++ σs) (ex ++ es) σ _ ω _ hK (by simp [hl, hlx]) h2.pop hk2 fun j p3 u F3 H3 hk3 h3 => ?_⟩
    have hu : u = .int j := by
      obtain ⟨v', fp, e1, r⟩ := h3.look (i := 0) rfl
      simp at e1; subst e1
      obtain ⟨_, r⟩ := r
      cases r; rfl
    subst hu
    have h4 : ER C F3 H3 ([] ++ (σx ++ (σs ++ σ))) ([] ++ (ex ++ (es ++ e3 p1 p2 p3))) := by simpa [List.append_assoc] using h3.pop
    obtain ⟨fp, r⟩ := rd F3 H3 [] [] (e3 p1 p2 p3) (hG p1 p2 p3) rfl h4
    obtain ⟨p, vs, fps, rfl, l1, ra⟩ := hv.view h3.sF r
    refine ⟨j, rfl, p, vs, rfl, by rw [← hK]; exact l1, fun t nt => ?_⟩
    have h5 : ER C F3 H3 (σx ++ (σs ++ σ)) (ex ++ (es ++ e3 p1 p2 p3)) := by simpa using h4
    exact q _ (p1, p2, p3) (.ref t) F3 _ hk3 (ER.newOw (h5.popN hlx) nt ⟨t, _, [], rfl, upd_same, (ra.zero.2.cut (some i) (some j)).zero, rfl⟩))
end
/-! ### orders of four and five ints; a way that is never gone -/
def lt4 (x y : Int × Int × Int × Int) : Bool := if x.1 = y.1 then (if x.2.1 = y.2.1 then (if x.2.2.1 = y.2.2.1 then decide (x.2.2.2 < y.2.2.2) else decide (x.2.2.1 < y.2.2.1)) else decide (x.2.1 < y.2.1)) else decide (x.1 < y.1)
def lt5 (x y : Int × Int × Int × Int × Int) : Bool := if x.1 = y.1 then lt4 x.2 y.2 else decide (x.1 < y.1)
theorem odT4 : Od (eT4 eI eI eI eI) lt4 := ⟨fun x y => by
  obtain ⟨x1, x2, x3, x4⟩ := x
  obtain ⟨y1, y2, y3, y4⟩ := y
  show PySem.W.dataLt (.tuple [eI.enc x1, eI.enc x2, eI.enc x3, eI.enc x4]) (.tuple [eI.enc y1, eI.enc y2, eI.enc y3, eI.enc y4]) = _
  rw [lt_cons (odI.al _ _), lt_cons (odI.al _ _), lt_cons (odI.al _ _), lt_one (odI.al _ _), evI.eq, evI.eq, evI.eq, odI.lt, odI.lt, odI.lt, odI.lt]
  unfold lt4 ltI
  simp only [decide_eq_true_eq], fun x y => by
  obtain ⟨x1, x2, x3, x4⟩ := x
  obtain ⟨y1, y2, y3, y4⟩ := y
  show PySem.W.alike (.tuple [eI.enc x1, eI.enc x2, eI.enc x3, eI.enc x4]) (.tuple [eI.enc y1, eI.enc y2, eI.enc y3, eI.enc y4]) = true
  simp only [PySem.W.alike, PySem.W.alikeAll, odI.al, Bool.and_self], fun _ h => by cases h⟩
theorem rep_t5 {K : Fg} {F H : Hp} {v : V} {x : Int × Int × Int × Int × Int} (s : Same F H) (h : Rep K F v ((eT5 eI eI eI eI eI).enc x)) : ∃ p, v = .ref p ∧ SqT K H p ([x.1, x.2.1, x.2.2.1, x.2.2.2.1, x.2.2.2.2].map V.int) := by
  obtain ⟨p, vs, rfl, h1, h2⟩ := Rep.tup_inv (ds := [x.1, x.2.1, x.2.2.1, x.2.2.2.1, x.2.2.2.2].map eI.enc) h
  have h3 : RepAll K F vs ([x.1, x.2.1, x.2.2.1, x.2.2.2.1, x.2.2.2.2].map eI.enc) := h2
  rw [h3.ints] at h1
  exact ⟨p, rfl, same_sqT s h1⟩
section
variable {X : Cx} {Ω : Type} {env : Env} {a b : Expr} {P P1 P2 R I J : Type} {e1 : P1 → Env} {e2 : P1 → P2 → Env} {SR : Stor R} {envR : I → Env} {kr : R → I → Option Ω} {bk ct : Lp Ω} {sts : List Stmt} {envJ : J → Env}
theorem lc_lt5 {fa : ((Int × Int × Int × Int × Int) → P1 → Option Ω) → Option Ω} {fb : P1 → ((Int × Int × Int × Int × Int) → P2 → Option Ω) → Option Ω} (hu : X.A.units + 64 < cLine) (ha : LX X env a (it (eT5 eI eI eI eI eI)) e1 fa) (hb : ∀ p1, LX X (e1 p1) b (it (eT5 eI eI eI eI eI)) (e2 p1) (fb p1)) :
    LC X env .Lt a b (fun p : P1 × P2 => e2 p.1 p.2) (fun k => fa fun x p1 => fb p1 fun y p2 => k (lt5 x y) (p1, p2)) :=
  lc_cmp (op_ltT (by omega)) (lo_of ha) (fun p1 => lo_of (hb p1)) (fun _ _ => trivial) (fun _ _ => trivial) fun K F H fp fq v u x y Q hK s r1 r2 q => by
    subst hK
    obtain ⟨p, rfl, h1⟩ := rep_t5 s r1.2
    obtain ⟨p', rfl, h2⟩ := rep_t5 s r2.2
    refine ⟨p, p', _, _, rfl, rfl, h1, h2, ?_⟩
    have e : lt5 x y = HT.lexLt [x.1, x.2.1, x.2.2.1, x.2.2.2.1, x.2.2.2.2] [y.1, y.2.1, y.2.2.1, y.2.2.2.1, y.2.2.2.2] := by
      unfold lt5 lt4
      have h5 : (!decide (x.2.2.2.2 = y.2.2.2.2) && decide (x.2.2.2.2 < y.2.2.2.2)) = decide (x.2.2.2.2 < y.2.2.2.2) := by
        rw [Bool.eq_iff_iff]
        simp
        omega
      simp [HT.lexLt, h5]
    rw [← e]; exact q
/-- where the walk is not followed -/
theorem lb_dead : LB X SR envR kr bk ct env sts envJ (fun _ => none) := fun C F H σs es σ kn ω D hK hl h hk => by cases hk
end
end Z
namespace Z
open PySem PySem.Spec PyProof.Rows L2
section
variable {α β γ δ ε : Type} {A : Enc α} {B : Enc β} {G : Enc γ} {D : Enc δ} {E5 : Enc ε}
theorem part5_0 : Part (eT5 A B G D E5) 0 A (·.1) := ⟨fun _ => ⟨_, rfl, rfl⟩⟩
theorem part5_1 : Part (eT5 A B G D E5) 1 B (·.2.1) := ⟨fun _ => ⟨_, rfl, rfl⟩⟩
theorem part5_2 : Part (eT5 A B G D E5) 2 G (·.2.2.1) := ⟨fun _ => ⟨_, rfl, rfl⟩⟩
theorem part5_3 : Part (eT5 A B G D E5) 3 D (·.2.2.2.1) := ⟨fun _ => ⟨_, rfl, rfl⟩⟩
theorem part5_4 : Part (eT5 A B G D E5) 4 E5 (·.2.2.2.2) := ⟨fun _ => ⟨_, rfl, rfl⟩⟩
end
end Z
namespace Z
open PySem PySem.Spec PyProof.Rows L2
theorem lx_some {X : Cx} {Ω : Type} {env : Env} {e : Expr} {τ P : Type} {E : Enc τ} {hn : ∀ a, E.enc a ≠ .none} {e' : P → Env} {f : (τ → P → Option Ω) → Option Ω} (h : LX X env e (it E) e' f) : LX X env e (it (eO E hn)) e' (fun (k : Option τ → P → Option Ω) => f fun a p => k (some a) p) := lx_as h some fun _ => rfl
end Z
namespace Z
open PySem PySem.Spec PyProof.Rows L2
section
variable {α β γ δ ε : Type} {A : Enc α} {B : Enc β} {G : Enc γ} {D : Enc δ} {E5 : Enc ε}
theorem nnI : ∀ a, eI.enc a ≠ .none := fun _ h => by cases h
theorem nnS : ∀ a, eS.enc a ≠ .none := fun _ h => by cases h
theorem nnB : ∀ a, eB.enc a ≠ .none := fun _ h => by cases h
theorem nnL : ∀ a, (eL A).enc a ≠ .none := fun _ h => by cases h
theorem nnV : ∀ a, (eV A).enc a ≠ .none := fun _ h => by cases h
theorem nnT2 : ∀ a, (eT2 A B).enc a ≠ .none := fun _ h => by cases h
theorem nnT3 : ∀ a, (eT3 A B G).enc a ≠ .none := fun _ h => by cases h
theorem nnT4 : ∀ a, (eT4 A B G D).enc a ≠ .none := fun _ h => by cases h
theorem nnT5 : ∀ a, (eT5 A B G D E5).enc a ≠ .none := fun _ h => by cases h
end
end Z

set_option Elab.async false
set_option linter.all false
set_option maxRecDepth 100000
namespace Z
open PySem PySem.Spec PyProof.Rows L2
/-! ### statements in two parts -/
theorem wp_app {M : Model} {A : Around} {E : Value → Shared → Prop} {Q : Flow → Shared → Prop} {env : PySem.Env} {sb : List Stmt} : ∀ (sa : List Stmt) (Γ : PySem.Ctx) (p : Pos) (s : Shared), Γ.In A → Sem.wp M Γ (execs sa env) (fun f _ s' => match f with | .next => wpAny M A (execs sb env) Q E s' | f => Q f s') (fun e _ s' => E e s') p s → Sem.wp M Γ (execs (sa ++ sb) env) (fun f _ s' => Q f s') (fun e _ s' => E e s') p s
  | [], Γ, p, s, hΓ, h => h Γ p hΓ
  | st :: sa, Γ, p, s, hΓ, h => by
    rw [execs_cons, Sem.wp_bind'] at h
    rw [List.cons_append, execs_cons, Sem.wp_bind']
    refine Sem.wp_mono M Γ _ (fun f p' s' h' => ?_) (fun _ _ _ h' => h') _ _ h
    cases f with
    | next => exact wp_app sa Γ p' s' hΓ h'
    | ret v => exact h'
    | brk => exact h'
    | cont => exact h'
theorem tSs_app {X : Cx} {sa sb : List Stmt} {D : Ends} {σ : L2.St} {H : Hp} (h : tSs X sa { D with nx := fun σ' H' => tSs X sb D σ' H' } σ H) : tSs X (sa ++ sb) D σ H := fun pins s I Γ p hΓ => by
  refine wp_app (E := X.xe) (Q := SP X pins D) sa Γ p s hΓ (Sem.wp_mono _ Γ _ (fun f p' s' h' => ?_) (fun _ _ _ h' => h') _ _ (h pins s I Γ p hΓ))
  cases f with
  | next =>
    obtain ⟨σ', H', I', q⟩ := h'
    exact q pins s' I'
  | ret v => exact h'
  | brk => exact h'
  | cont => exact h'
/-! ### shared data without its lists -/
def sml (F : Hp) : Hp := fun a => match F a with
  | some (.lst _) => none
  | some (.frz _ (.lst _)) => none
  | o => o
theorem sml_same {F : Hp} : Same (sml F) F := fun a o e => by
  unfold sml at e
  split at e
  · cases e
  · cases e
  · exact e
theorem sml_no {F : Hp} {a : Addr} {xs : List V} (h : F a = some (.lst xs)) : sml F a = none := by unfold sml; rw [h]
theorem sml_sqT {K : Fg} {F : Hp} {a : Addr} {xs : List V} (h : SqT K F a xs) : SqT K (sml F) a xs := by
  rcases h with h | h
  · rcases h with h | ⟨o, h⟩
    · exact .inl (.inl (by unfold sml; rw [h]))
    · exact .inl (.inr ⟨o, by unfold sml; rw [h]⟩)
  · exact .inr h
structure NoL {α : Type} (E : Enc α) : Prop where
  no : ∀ {K : Fg} {F : Hp} {v : V} {x : α}, Rep K F v (E.enc x) → Rep K (sml F) v (E.enc x)
theorem noI : NoL eI := ⟨fun h => by
  rename_i x
  have h' : Rep _ _ _ (.int x) := h
  cases h'
  exact .int x⟩
theorem noS : NoL eS := ⟨fun h => by
  rename_i x
  have h' : Rep _ _ _ (.str x) := h
  cases h'
  exact .str x⟩
theorem noT2 {α β : Type} {A : Enc α} {B : Enc β} (a : NoL A) (b : NoL B) : NoL (eT2 A B) := ⟨fun h => by
  rename_i x
  have h' : Rep _ _ _ (.tuple [A.enc x.1, B.enc x.2]) := h
  cases h' with
  | tup s r =>
    cases r with
    | cons r1 r => cases r with
      | cons r2 r => cases r with
        | nil => exact .tup (sml_sqT s) (.cons (a.no r1) (.cons (b.no r2) .nil))⟩
theorem noT3 {α β γ : Type} {A : Enc α} {B : Enc β} {G : Enc γ} (a : NoL A) (b : NoL B) (g : NoL G) : NoL (eT3 A B G) := ⟨fun h => by
  rename_i x
  have h' : Rep _ _ _ (.tuple [A.enc x.1, B.enc x.2.1, G.enc x.2.2]) := h
  cases h' with
  | tup s r =>
    cases r with
    | cons r1 r => cases r with
      | cons r2 r => cases r with
        | cons r3 r => cases r with
          | nil => exact .tup (sml_sqT s) (.cons (a.no r1) (.cons (b.no r2) (.cons (g.no r3) .nil)))⟩
theorem no_all {α : Type} {E : Enc α} (n : NoL E) {K : Fg} {F : Hp} : ∀ {vs : List V} {xs : List α}, RepAll K F vs (xs.map E.enc) → RepAll K (sml F) vs (xs.map E.enc)
  | [], [], _ => .nil
  | _ :: _, [], h => by cases h
  | [], _ :: _, h => by cases h
  | _ :: _, _ :: _, .cons h r => .cons (n.no h) (no_all n r)
theorem rep_rel0 {α : Type} {E : Enc α} {K : Fg} {F H : Hp} : ∀ {vs : List V} {xs : List α}, RepAll K F vs (xs.map E.enc) → RelAll ((it E).rel K F H) [] vs xs
  | [], [], _ => .nil
  | _ :: _, [], h => by cases h
  | [], _ :: _, h => by cases h
  | _ :: _, _ :: _, .cons h r => RelAll.cons (fp := []) (fps := []) ⟨rfl, h⟩ (rep_rel0 r)
section
variable {X : Cx} {Ω : Type} {env : Env} {nm vn : Str} {pos np vp : Pos} {e : Expr} {xs : List Expr} {Pt A R : Type} {SR : Stor R} {e' : Pt → Env} {sl : A → Env} {k : Nat} {f : Addr} {fd : FuncData} {ps : List Str}
/-- f(e, ..), f reads the shared flat list that e tells -/
theorem lx_callLS1 {α : Type} {E : Enc α} {m : List α → A → Option R} {fa : ((List α × A) → Pt → Option Ω) → Option Ω} (Fn : FnOk X.prog X.w X.K X.mg X.base CX0 k f fd ps (spL X.K (ls (it E)) sl SR m)) (hr : Room k X.A) (hm : X.mg nm = some (.ref f)) (hk : PySem.W.keepIn X.K (.ref f) = true) (hb : Binds X.K fd ps []) (sh : ∀ a, ShE (sl a))
    (ha : LA X env (e :: xs) (fun a : List α × A => .st none (List α) (it (eL E)) a.1 :: sl a.2) e' fa) (hg : Gl X nm := by rfl) (hdb : (nm == ("__debug__" : Str)) = false := by decide) (he : starEach (e :: xs) X.env = (false, eval e X.env) :: starEach xs X.env := by rfl) (hpl : (backTo pos (starEach xs X.env)).any (·.1) = false := by rfl) :
    LX X env (.Call (.Name nm np) (e :: xs) [] pos) SR e' (fun k => fa fun a p => (m a.1 a.2).bind fun r => k r p) :=
  fun C F H σs es σ k ω Q hK hl h hk' q => tE.of X (pe_call Fn hr hg hm hk hb .nil pass0 (paC X) hdb he hpl) (ha C F H σs es σ _ ω _ hK hl h hk' fun a p vs F' H' hk2 hlv h' => by
    obtain ⟨r, hm', hk3⟩ := bind_some hk2
    obtain ⟨t, a⟩ := a
    show spL X.K (ls (it E)) sl SR m (vs ++ []) H' Q _
    rw [List.append_nil, ← hK]
    match vs, hlv with
    | v0 :: vs, hlv =>
      have hlv2 : (vs.map some).length = (sl a).length := by simpa using hlv
      have hall := h'.enter (σa := (v0 :: vs).map some) (ea := .st none (List α) (it (eL E)) t :: sl a) hlv (.cons cp_it (sh a))
      have hsub := h'.pop.enter hlv2 (sh a)
      obtain ⟨fe, qe⟩ := hsub.sl
      obtain ⟨v1, e1, r1⟩ := hall.rep (i := 0) rfl
      simp at e1; subst e1
      obtain ⟨fq, rr, nn⟩ := rep_ls1 hall.sF r1
      refine ⟨H', F', t, a, r, v0, vs, rfl, hm', hlv2, ⟨hsub.sB, hsub.sF, hsub.gr, hsub.up, by simp [hsub.len], _, qe.push (fq := []) ⟨rfl, v0, fq, rfl, rr, fun a m => same_some hall.sF (nn a m)⟩ (fun _ m => nomatch m) List.nodup_nil fun _ _ _ _ m => nomatch m⟩, fun F2 H2 v h3 => ?_⟩
      obtain ⟨F3, h4⟩ := (h'.popN hlv).back h3
      exact q r p v F3 H2 hk3 h4)
end
/-! ### an instance made from a lent thing -/
theorem ER.makeL {C : Ck} {c : Addr} {F H : Hp} {σ : List (Option V)} {env : Env} {T : Type} {S : Stor T} {t : T} {v0 : V} {fq : List Addr} {p dx : Addr} (h : ER C F H σ env) (r0 : S.rel C.K F H fq v0 t) (hf : ∀ a ∈ fq, H a ≠ none) (np : H p = none) (nd : H dx = none) (ne : dx ≠ p) :
    ∃ B io, ER ⟨C.K, B, F, upd (upd H dx (.own p)) p (.ins c dx []), io⟩ F (upd (upd H dx (.own p)) p (.ins c dx [])) [some (.ref p), some v0] [.st (some (.ref p)) Unit (insN c) (), .lk T S t] ∧ ∀ (T' : Type) (ST : Stor T') (t' : T') (F' H' : Hp) (v : V), ER ⟨C.K, B, F, upd (upd H dx (.own p)) p (.ins c dx []), io⟩ F' H' [some v, some (.ref p)] [.st none Unit (it eN) (), .st (some (.ref p)) T' ST t'] →
      v = .non ∧ ∃ F'', ER C F'' H' (some (.ref p) :: σ) (.st none T' ST t' :: env) := by
  have h2 := h.newH (u := .own p) nd
  have np2 : upd H dx (.own p) p = none := by rw [upd_ne (fun z => ne z.symm)]; exact np
  have s2 : Same H (upd H dx (.own p)) := same_new nd
  have s3 : Same (upd H dx (.own p)) (upd (upd H dx (.own p)) p (.ins c dx [])) := same_new np2
  refine ⟨upd H dx (.own p), [p], ⟨s3, fun a o e => s3 a o (h2.sF a o e), fun a m => .inl m, fun a m => m, rfl, _, Fps.push (fp := fun _ => []) ⟨fun j s e => ?_, fun j hj a ha => (nomatch ha), fun j l _ _ a ha => (nomatch ha), fun j _ => List.nodup_nil⟩ (fq := [p]) ⟨.ref p, rfl, ⟨p, dx, [], rfl, upd_same, rfl, .nil, rfl⟩, rfl, fun a m => .inr m⟩ (fun a m => ?_) (by simp) (fun _ _ _ m => nomatch m)⟩, ?_⟩
  · match j, e with
    | 0, e =>
      simp at e; subst e
      exact ⟨rfl, v0, fq, rfl, S.frame (fun a m => by rw [same_eq s3 (same_some s2 (hf a m)), same_eq s2 (hf a m)]) r0, fun a m => same_some s2 (hf a m)⟩
    | j + 1, e => simp at e
  · simp at m; subst m
    exact ⟨np2, h2.fnone np2, by rw [upd_same]; exact fun z => by cases z⟩
  · intro T' ST t' F' H' v hc
    obtain ⟨fc, qc⟩ := hc.sl
    obtain ⟨v1, ev1, r1, n1⟩ := qc.ok 0 _ rfl
    simp at ev1; subst ev1
    have hv : v = .non := by
      obtain ⟨_, r1⟩ := r1
      cases r1; rfl
    refine ⟨hv, ?_⟩
    have n3 : ∀ a, upd (upd H dx (.own p)) p (.ins c dx []) a = none → upd H dx (.own p) a = none := fun a e => by
      by_cases z : a = p
      · rw [z, upd_same] at e; cases e
      · rw [upd_ne z] at e; exact e
    have hp : ER ⟨C.K, upd H dx (.own p), F, upd (upd H dx (.own p)) p (.ins c dx []), [p]⟩ F' H' [some (.ref p)] [.st (some (.ref p)) T' ST t'] := hc.pop
    obtain ⟨fr, qq⟩ := hp.sl
    obtain ⟨v2, ev2, r2, n2⟩ := qq.ok 0 _ rfl
    simp at ev2; subst ev2
    have hq : ER ⟨C.K, upd H dx (.own p), F, upd H dx (.own p), []⟩ F' H' [some (.ref p)] [.st none T' ST t'] := by
      refine ⟨hc.sB, hc.sF, fun a m => (hc.gr a m).imp id (n3 a), fun a m => hc.up a (same_some s3 m), rfl, fr, fun j s e => ?_, fun j hj => qq.own j (by simpa using hj), fun j l hj hl => qq.sep j l (by simpa using hj) (by simpa using hl), fun j hj => qq.nd j (by simpa using hj)⟩
      match j, e with
      | 0, e =>
        simp at e; subst e
        refine ⟨.ref p, rfl, r2, fun a m => ?_⟩
        rcases n2.2 a m with z | z
        · exact n3 a z
        · simp at z; subst z; exact np2
      | j + 1, e => simp at e
    exact h2.back hq
section
variable {X : Cx} {Ω : Type} {env : Env} {nm vn : Str} {pos np vp : Pos} {T T0 : Type} {ST : Stor T} {S0 : Stor T0} {k : Nat} {f c : Addr} {fd : FuncData} {ps : List Str}
/-- C(x), x lent -/
theorem lx_makeL {x : T0} {m : T0 → Option T} (i : Nat) (M : Mk X.K c f) (Fn : FnOk X.prog X.w X.K X.mg X.base CX0 k f fd ps (spN X.K c (fun a : T0 × Unit => [.lk T0 S0 a.1]) ST (fun a => m a.1))) (hr : Room (k + 1) X.A) (hm : X.mg nm = some (.ref c)) (hb : Binds X.K fd ps [])
    (h0 : env[i]? = some (.lk T0 S0 x)) (hN : X.N[i]? = some vn := by rfl) (hv : Vis X.env.scope vn := by first | exact Or.inl rfl | exact Or.inr (Or.inl rfl) | exact Or.inr (Or.inr rfl)) (hd : (vn == ("__debug__" : Str)) = false := by decide) (hcd : (vn == ("__classdict__" : Str)) = false := by decide)
    (hg : Gl X nm := by rfl) (hdb : (nm == ("__debug__" : Str)) = false := by decide) (he : starEach [Expr.Name vn vp] X.env = (false, eval (Expr.Name vn vp) X.env) :: starEach [] X.env := by rfl) (hpl : (backTo pos (starEach [] X.env)).any (·.1) = false := by rfl) :
    LX X env (.Call (.Name nm np) [.Name vn vp] [] pos) ST (fun _ : Unit => env) (fun (k : T → Unit → Option Ω) => (m x).bind fun r => k r ()) :=
  fun C F H σs es σ k ω Q hK hl h hk' q => tE.of X (pe_make M Fn hr hg hm hb .nil pass0 (paC X) hdb he hpl) (la_lendK i h0 hN hv (la_nil (Ω := Ω)) hd hcd he C F H σs es σ (fun _ _ => (m x).bind fun r => k r ()) ω _ hK hl h hk' fun a p v0 vs F' H' hk2 hv0 hlv h' => by
    obtain ⟨r, hm', hk2⟩ := bind_some hk2
    intro y dx nx ndx ne
    match vs, hlv with
    | [], _ =>
      have h2 : ER C F' H' (σs ++ σ) (es ++ env) := h'
      obtain ⟨fp, qq⟩ := h2.sl
      obtain ⟨_, v', fq, e1, rr, hB⟩ := qq.ok (es.length + i) _ (by rw [at_app _ rfl]; exact h0)
      rw [at_app _ hl, hv0] at e1
      simp at e1; subst e1
      show spN X.K c _ ST _ (.ref y :: ([v0] ++ [])) _ _ _
      rw [List.append_nil, ← hK]
      obtain ⟨B, io, g1, g2⟩ := h2.makeL (c := c) rr (fun a m => same_some h2.sB (hB a m)) nx ndx ne
      refine ⟨B, F', io, (x, ()), r, .ref y, [v0], rfl, hm', rfl, g1, fun F2 H2 v h3 => ?_⟩
      obtain ⟨hvn, F3, h4⟩ := g2 T ST r F2 H2 v h3
      exact ⟨hvn, q r () (.ref y) F3 H2 hk2 h4⟩)
end
/-! ### what is told is changed behind: told = f(x) .. told[j].append(n), then told is not used -/
inductive Pin (pv : Nat → V) : Nat → Env → Env → Prop
  | nil {n : Nat} : Pin pv n [] []
  | un {n : Nat} {s : Slot} {a b : Env} : Pin pv (n + 1) a b → Pin pv n (s :: a) (.un :: b)
  | keep {n : Nat} {τ : Type} {E : Enc τ} {x : τ} {a b : Env} : Pin pv (n + 1) a b → Pin pv n (.st none τ (it E) x :: a) (.st (some (pv n)) τ (it E) x :: b)
inductive Unp (pv : Nat → V) : Nat → Env → Env → Prop
  | nil {n : Nat} : Unp pv n [] []
  | un {n : Nat} {s : Slot} {a b : Env} : Unp pv (n + 1) a b → Unp pv n (s :: a) (.un :: b)
  | keep {n : Nat} {τ τ' : Type} {S : Stor τ} {S' : Stor τ'} {x : τ} {x' : τ'} {w : Option V} {a b : Env} : Unp pv (n + 1) a b → Unp pv n (.st (some (pv n)) τ S x :: a) (.st w τ' S' x' :: b)
theorem Pin.len {pv : Nat → V} : ∀ {n : Nat} {a b : Env}, Pin pv n a b → a.length = b.length
  | _, _, _, .nil => rfl
  | _, _, _, .un r => congrArg (· + 1) r.len
  | _, _, _, .keep r => congrArg (· + 1) r.len
theorem Pin.get {pv : Nat → V} : ∀ {n : Nat} {a b : Env}, Pin pv n a b → ∀ (j : Nat) (s : Slot), b[j]? = some s → s = .un ∨ ∃ (τ : Type) (E : Enc τ) (x : τ), s = .st (some (pv (n + j))) τ (it E) x ∧ a[j]? = some (.st none τ (it E) x)
  | _, _, _, .nil, j, s, e => by simp at e
  | _, _, _, .un r, 0, s, e => .inl (by simp at e; exact e.symm)
  | n, _, _, .un r, j + 1, s, e => by
    rw [show n + (j + 1) = n + 1 + j by omega]
    simpa using r.get j s (by simpa using e)
  | _, _, _, .keep r, 0, s, e => .inr ⟨_, _, _, by simp at e; exact e.symm, rfl⟩
  | n, _, _, .keep r, j + 1, s, e => by
    rw [show n + (j + 1) = n + 1 + j by omega]
    simpa using r.get j s (by simpa using e)
theorem Unp.get {pv : Nat → V} : ∀ {n : Nat} {a b : Env}, Unp pv n a b → ∀ (j : Nat) (s : Slot), b[j]? = some s → s = .un ∨ ((∃ (τ : Type) (S : Stor τ) (x : τ), a[j]? = some (.st (some (pv (n + j))) τ S x)) ∧ ∃ (w : Option V) (τ : Type) (S : Stor τ) (x : τ), s = .st w τ S x)
  | _, _, _, .nil, j, s, e => by simp at e
  | _, _, _, .un r, 0, s, e => .inl (by simp at e; exact e.symm)
  | n, _, _, .un r, j + 1, s, e => by
    rw [show n + (j + 1) = n + 1 + j by omega]
    simpa using r.get j s (by simpa using e)
  | _, _, _, .keep r, 0, s, e => .inr ⟨⟨_, _, _, rfl⟩, ⟨_, _, _, _, by simp at e; exact e.symm⟩⟩
  | n, _, _, .keep r, j + 1, s, e => by
    rw [show n + (j + 1) = n + 1 + j by omega]
    simpa using r.get j s (by simpa using e)
theorem Unp.len {pv : Nat → V} : ∀ {n : Nat} {a b : Env}, Unp pv n a b → a.length = b.length
  | _, _, _, .nil => rfl
  | _, _, _, .un r => congrArg (· + 1) r.len
  | _, _, _, .keep r => congrArg (· + 1) r.len
theorem sub_uns : ∀ (a : Env), Sub a (List.replicate a.length .un)
  | [] => .nil
  | _ :: a => .drop (sub_uns a)
theorem uns_get {n j : Nat} {s : Slot} (h : (List.replicate n Slot.un)[j]? = some s) : s = .un := by
  rw [List.getElem?_replicate] at h
  split at h
  · cases h; rfl
  · cases h
section
variable {X : Cx} {R0 I Ω : Type} {SR : Stor R0} {envR : I → Env} {kr : R0 → I → Option Ω} {bk ct : Lp Ω} {env env2 : Env} {rest : List Stmt} {J : Type} {envJ : J → Env} {rest0 : List Stmt} {nm vn tn : Str} {k : Nat} {f : Addr} {fd : FuncData} {ps : List Str} {pos tp np vp cp ap sp np2 cp2 pos2 jp xp : Pos} {jk xk : Nat}
theorem lb_scope {α β R : Type} {E : Enc α} {E1 : Enc β} {Et : Enc R} {m : List α → Option R} {g : R → List β} {xs : List α} {fA : R → (Unit → Option Ω) → Option Ω} {fr : R → (J → Option Ω) → Option Ω} {env1 envA : (Nat → V) → R → Env} {j : Nat} {z : Int} (i it_ n_ : Nat) (no : NoL E)
    (Fn : FnOk X.prog X.w X.K X.mg X.base CX0 k f fd ps (spL X.K (ls (it E)) (fun _ : Unit => []) (it Et) (fun t0 _ => m t0))) (hrm : Room k X.A) (hmg : X.mg nm = some (.ref f)) (hkp : PySem.W.keepIn X.K (.ref f) = true) (hb : Binds X.K fd ps []) (hNd : X.N.Nodup)
    (h0 : env[i]? = some (.st none (List α) (it (eL E)) xs)) (hpart : ∀ r, ∃ ds, Et.enc r = .tuple ds ∧ ds[j]? = some ((eL E1).enc (g r)))
    (hR : ∀ q, envR q = List.replicate env.length .un) (hlt : it_ < env.length) (hp1 : ∀ pv r, Pin pv 0 (env.set it_ (.st none R (it Et) r)) (env1 pv r))
    (hA : ∀ pv r, LB X SR envR kr (noLp Ω) (noLp Ω) (env1 pv r) (rest0.take n_) (fun _ : Unit => envA pv r) (fA r)) (hT : ∀ pv r, (envA pv r)[it_]? = some (.st (some (pv it_)) R (it Et) r)) (hp2 : ∀ pv r, Unp pv 0 (envA pv r) env2) (hs2 : Sub env env2) (hit : env2[it_]? = some .un)
    (hr : ∀ r, LB X SR envR kr bk ct env2 rest envJ (fr r)) (hsp : rest0.drop n_ = .Expr (.Call (.Attribute (.Subscript (.Name tn np2) (.Constant (.int j) jk jp) sp) "append" ap) [.Constant (.int z) xk xp] [] cp2) pos2 :: rest)
    (hi : X.N[i]? = some vn := by rfl) (hit2 : X.N[it_]? = some tn := by rfl) (hv : Vis X.env.scope vn := by first | exact Or.inl rfl | exact Or.inr (Or.inl rfl) | exact Or.inr (Or.inr rfl)) (hvt : Vis X.env.scope tn := by first | exact Or.inl rfl | exact Or.inr (Or.inl rfl) | exact Or.inr (Or.inr rfl))
    (hd : (vn == ("__debug__" : Str)) = false := by decide) (hcd : (vn == ("__classdict__" : Str)) = false := by decide) (hd2 : (tn == ("__debug__" : Str)) = false := by decide) (hcd2 : (tn == ("__classdict__" : Str)) = false := by decide)
    (hx : Loc X.env.scope tn := by first | exact Or.inl rfl | exact Or.inr rfl) (hf : X.fn tn = true ∨ X.env.scope.names.lookup tn = some .local := by first | exact .inl rfl | exact .inr rfl) (hs : swapsWith (.Call (.Name nm np) [.Name vn vp] [] cp) (some (.Name tn tp)) pos.line X.env = pure false := by rfl)
    (hg : Gl X nm := by rfl) (hdb : (nm == ("__debug__" : Str)) = false := by decide) (he : starEach [Expr.Name vn vp] X.env = (false, eval (Expr.Name vn vp) X.env) :: starEach [] X.env := by rfl) (hpl : (backTo cp (starEach [] X.env)).any (·.1) = false := by rfl)
    (hp : PlainIx (.Constant (.int j) jk jp) := by exact fun _ _ => rfl)
    (hbase : attributeBase (.Subscript (.Name tn np2) (.Constant (.int j) jk jp) sp) "append" X.env (eval (.Subscript (.Name tn np2) (.Constant (.int j) jk jp) sp) X.env) = eval (.Subscript (.Name tn np2) (.Constant (.int j) jk jp) sp) X.env := by rfl)
    (hfew : ((backTo cp2 (starEach [.Constant (.int z) xk xp] X.env)).all (fun x => !x.1) && (backToKw cp2 (keywordEach [] X.env)).all (fun x => x.1.isSome) && decide ([Expr.Constant (.int z) xk xp].length + ([] : List Keyword).length + (if ([] : List Keyword).isEmpty then 0 else 1) < 30)) = true := by rfl)
    (hline : (ap.endLine == cp2.line) = true := by rfl) (hse : starEach [.Constant (.int z) xk xp] X.env = (false, eval (.Constant (.int z) xk xp) X.env) :: starEach [] X.env := by rfl) (hplain : (backTo cp2 (starEach [] X.env)).any (·.1) = false := by rfl)
    (hsw : swapsWith (.Call (.Attribute (.Subscript (.Name tn np2) (.Constant (.int j) jk jp) sp) "append" ap) [.Constant (.int z) xk xp] [] cp2) none pos2.line X.env = pure false := by rfl) :
    LB X SR envR kr bk ct env (.Assign [.Name tn tp] (.Call (.Name nm np) [.Name vn vp] [] cp) pos :: rest0) envJ (fun kn => (m xs).bind fun r => fA r fun _ => ck (decide ((g r).length < SZ)) (fr r kn)) := by
  obtain ⟨sa, hsa⟩ : ∃ sa, sa = rest0.take n_ := ⟨_, rfl⟩
  rw [← hsa] at hA
  have e0 : rest0 = sa ++ .Expr (.Call (.Attribute (.Subscript (.Name tn np2) (.Constant (.int j) jk jp) sp) "append" ap) [.Constant (.int z) xk xp] [] cp2) pos2 :: rest := by rw [hsa, ← hsp, List.take_append_drop]
  clear hsa hsp
  subst e0
  exact fun C F H σs es σ kn ω D hK hl h hk qn qb qc qr => tSs.of X (pss_cons (ps_set hNd hit2 hx (pe_call Fn hrm hg hmg hkp hb .nil pass0 (paC X) hdb he hpl) hs hf) (pssC X)) (by
    obtain ⟨r, hm, hk⟩ := bind_some hk
    refine la_lend i h0 hi hv (la_nil (Ω := Ω)) hd hcd he C F H σs es σ (fun _ _ => some ω) ω _ hK hl h rfl fun a p v0 vs F' H' _ hv0 hlv h' => ?_
    match vs, hlv with
    | [], _ =>
    have h2 : ER C F' H' (σs ++ σ) (es ++ env) := h'
    obtain ⟨vo, eo, ro⟩ := h2.repF hl h0
    rw [hv0] at eo; cases eo
    obtain ⟨p0, ws0, rfl, hF0, ra0⟩ := Rep.lst_inv ro
    show spL X.K (ls (it E)) (fun _ : Unit => []) (it Et) (fun t0 _ => m t0) ([.ref p0] ++ []) H' _ _
    rw [List.append_nil, ← hK]
    refine ⟨H', sml F', xs, (), r, .ref p0, [], rfl, hm, rfl, ⟨fun _ _ e => e, fun a o e => h2.sF a o (sml_same a o e), fun a m => .inl m, fun a m => m, rfl, fun _ => [], ⟨fun q s e => ?_, fun j hj a ha => (nomatch ha), fun j l _ _ a ha => (nomatch ha), fun j _ => List.nodup_nil⟩⟩, fun F2 H2 v h3 => ?_⟩
    · match q, e with
      | 0, e =>
        simp at e; subst e
        refine ⟨rfl, .ref p0, [p0], rfl, ⟨p0, ws0, [], rfl, h2.sF _ _ hF0, rep_rel0 (no_all no ra0), rfl⟩, fun a m => ?_⟩
        simp at m; subst m
        show H' a ≠ none
        rw [h2.sF _ _ hF0]; exact fun z => by cases z
      | q + 1, e => simp at e
    have sH2 : Same H' H2 := h3.sB
    have sFH2 : Same F' H2 := fun a o e => sH2 a o (h2.sF a o e)
    have nw : ∀ a, hun F' F2 a ≠ none → F' a ≠ none ∨ H' a = none := fun a m => by
      rcases hun_some m with m | m
      · exact .inl m
      · rcases h3.gr a m with m | m
        · exact .inl (same_some sml_same m)
        · exact .inr m
    have hG := h2.grow sH2 same_hunL (hun_same sFH2 h3.sF) nw
    obtain ⟨v', ev', rv⟩ := h3.rep (i := 0) rfl
    simp at ev'; subst ev'
    have rv3 := rv.mono (same_hunR sFH2 h3.sF)
    have hT1 := (hG.pushSh (E := Et) (x := r) rv3).asg hl hlt
    have hσl : σ.length = env.length := h2.lenF hl
    generalize hσ1 : σ.set it_ (some v) = σ1 at hT1
    have ev1 : σ1[it_]? = some (some v) := by rw [← hσ1]; exact List.getElem?_set_self (by omega)
    generalize hpv : (fun n : Nat => (σ1[n]?.join).getD .non) = pv
    have pvit : pv it_ = v := by rw [← hpv]; show (σ1[it_]?.join).getD .non = v; rw [ev1]; rfl
    refine tSs_app ?_
    rw [hσ1]
    refine (hA pv r ⟨C.K, H2, hun F' F2, H2, []⟩ (hun F' F2) H2 [] [] σ1 (fun _ => ck (decide ((g r).length < SZ)) (fr r kn)) ω { D with nx := fun σ' H' => tSs X _ D σ' H' } hK rfl ⟨fun _ _ e => e, hG.sF, fun a m => .inl m, fun a m => m, ?_, fun _ => [], ⟨fun q s e => ?_, fun j hj a ha => (nomatch ha), fun j l _ _ a ha => (nomatch ha), fun j _ => List.nodup_nil⟩⟩ hk (fun _ F4 H4 σ4 hk4 h4 => ?_) (fun z => z.elim) (fun z => z.elim) (fun a q w F4 H4 σ4 hk4 h4 => ?_))
    · have := (hp1 pv r).len
      show σ1.length = (env1 pv r).length
      rw [← this, List.length_set, ← hσ1, List.length_set, hσl]
    · rcases (hp1 pv r).get q s e with rfl | ⟨τ, E', x, rfl, e2⟩
      · exact rfl
      · obtain ⟨u, eu, ru⟩ := hT1.repF hl e2
        refine ⟨u, by show σ1[q]?.join = some u; rw [eu]; rfl, ⟨rfl, ru⟩, ?_, fun _ m => nomatch m⟩
        rw [Nat.zero_add, ← hpv]
        show u = (σ1[q]?.join).getD .non
        rw [eu]; rfl
    · have h4' : ER ⟨C.K, H2, hun F' F2, H2, []⟩ F4 H4 σ4 (envA pv r) := h4
      have s24 : Same H2 H4 := h4'.sB
      obtain ⟨hc, hk4⟩ := ck_some hk4
      have hc' := of_decide_eq_true hc
      have pin : ∀ (n : Nat) (τ : Type) (S : Stor τ) (x : τ), (envA pv r)[n]? = some (.st (some (pv n)) τ S x) → σ4[n]? = some (some (pv n)) := fun n τ S x e => by
        obtain ⟨fp, qq⟩ := h4'.sl
        obtain ⟨u, e1, _, e2, _⟩ := qq.ok n _ e
        cases e2
        cases y : σ4[n]? with
        | none => rw [y] at e1; cases e1
        | some o => rw [y] at e1; exact congrArg some e1
      have et := pin it_ _ _ _ (hT pv r)
      rw [pvit] at et
      obtain ⟨ds, ed, edj⟩ := hpart r
      rw [ed] at rv
      obtain ⟨a, us, rfl, sq, rus⟩ : ∃ a us, v = .ref a ∧ SqT C.K F2 a us ∧ RepAll C.K F2 us ds := by
        cases rv with
        | tup s q => exact ⟨_, _, rfl, s, q⟩
      obtain ⟨u0, eu0, ru0⟩ := rus.get edj
      obtain ⟨a0, ws, rfl, hF2, rws⟩ := Rep.lst_inv ru0
      have hwl : ws.length = (g r).length := by have := rws.length; simpa using this
      have hH2 : H2 a0 = some (.lst ws) := h3.sF _ _ hF2
      have new : H' a0 = none := by
        rcases h3.gr a0 (by rw [hF2]; exact fun z => by cases z) with m | m
        · exfalso
          have m' : sml F' a0 ≠ none := m
          cases q : sml F' a0 with
          | none => exact m' q
          | some o =>
            have e1 := sml_same _ _ q
            have e2 := sFH2 _ _ e1
            rw [hH2] at e2; cases e2
            rw [sml_no e1] at q; cases q
        · exact m
      have hH4 : H4 a0 = some (.lst ws) := s24 _ _ hH2
      refine tSs.of X (pss_cons (ps_expr (pe_bm PySem.F.plainAttrs_list PySem.F.slot_list_append PySem.F.type_list_append mt_append (pe_ix ix_tup (pe_var hit2 hvt hd2 hcd2) pe_int hp) (pa_cons pe_int pa_nil hse) hbase hfew hline hse hplain) hsw) (pssC X)) ?_
      refine ⟨.ref a, et, a, us, (j : Int), .ref a0, rfl, rfl, ?_, ?_, .inl ⟨rfl, ws, SqL.of hH4⟩, ?_⟩
      · have sq4 : SqT X.K H4 a us := by
          rw [← hK]
          exact same_sqT (fun b o e => s24 b o (h3.sF b o e)) sq
        exact sq4
      · have hj : j < us.length := lt_of_get eu0
        rw [atI_nat hj]
        rw [List.getElem?_eq_getElem hj] at eu0
        exact eu0
      refine ⟨a0, ws, .int z, rfl, rfl, hH4, by rw [SZ_eq]; omega, ?_⟩
      have sH5 : Same H' (upd H4 a0 (.lst (ws ++ [.int z]))) := fun b o e => by
        have ne : b ≠ a0 := fun y => by rw [y, new] at e; cases e
        rw [upd_ne ne]; exact s24 b o (sH2 b o e)
      have h5 := h2.grow (F' := F') sH5 (fun _ _ e => e) (fun b o e => sH5 b o (h2.sF b o e)) fun b m => .inl m
      have hl4 : σ4.length = σ.length := by
        have a1 := h4'.len
        have a2 := (hp2 pv r)
        have a3 := hs2.len
        have a4 := a2.len
        omega
      refine hr r C F' _ σs es σ4 kn ω D hK hl ((h5.subF hs2).like hl hl4 fun n s e => ?_) hk4 qn qb qc qr
      rcases (hp2 pv r).get n s e with rfl | ⟨⟨τ, S, x, e1⟩, w', τ', S', x', rfl⟩
      · exact .inl rfl
      · right
        rw [Nat.zero_add] at e1
        rw [pin n _ _ _ e1]
        have hn : n ≠ it_ := fun y => by subst y; rw [hit] at e; cases e
        rcases hs2.get n _ e with y | y
        · cases y
        · obtain ⟨u, _, eu, _⟩ := h2.lookF hl y
          rw [eu, ← hpv]
          show some (some ((σ1[n]?.join).getD .non)) = _
          rw [← hσ1, List.getElem?_set_ne (fun y => hn y.symm), eu]; rfl
    · have h4' : ER ⟨C.K, H2, hun F' F2, H2, []⟩ F4 H4 (some w :: σ4) (.st none R0 SR a :: envR q) := h4
      have hl4 : σ4.length = σ.length := by
        have a1 := h4'.len
        rw [hR q] at a1
        simp at a1; omega
      have hG2 : ER C (hun F' F2) H2 (σs ++ σ4) (es ++ envR q) := by
        rw [hR q]
        exact (hG.subF (sub_uns env)).like hl hl4 fun n s e => .inl (uns_get e)
      obtain ⟨F5, h5⟩ := hG2.back h4'.head
      exact qr a q w F5 H4 σ4 hk4 h5)
end
end Z

set_option Elab.async false
set_option linter.all false
set_option maxRecDepth 100000
namespace Z
open PySem PySem.Spec PyProof.Rows L2
/-! ### instances whose fields hold shared data, lists or dicts of their own -/
inductive FV
  | sh (d : PyData)
  | li (ds : List PyData)
  | dk (kvs : List (Key × PyData))
  | dt (kvs : List (List Key × PyData))
def FvR (K : Fg) (F H : Hp) (fp : List Addr) (v : V) : FV → Prop
  | .sh d => fp = [] ∧ Rep K F v d
  | .li ds => ∃ q vs, v = .ref q ∧ H q = some (.lst vs) ∧ RepAll K F vs ds ∧ fp = [q]
  | .dk kvs => ∃ q vs, v = .ref q ∧ H q = some (.dK ((kvs.map (·.1)).zip vs)) ∧ RepAll K F vs (kvs.map (·.2)) ∧ fp = [q]
  | .dt kvs => ∃ q vs, v = .ref q ∧ H q = some (.dT ((kvs.map (·.1)).zip vs)) ∧ RepAll K F vs (kvs.map (·.2)) ∧ fp = [q]
theorem FvR.mono {K : Fg} {F F' H : Hp} {fp : List Addr} {v : V} (s : Same F F') : ∀ {x : FV}, FvR K F H fp v x → FvR K F' H fp v x
  | .sh _, h => ⟨h.1, h.2.mono s⟩
  | .li _, ⟨q, vs, a, b, c, d⟩ => ⟨q, vs, a, b, c.mono s, d⟩
  | .dk _, ⟨q, vs, a, b, c, d⟩ => ⟨q, vs, a, b, c.mono s, d⟩
  | .dt _, ⟨q, vs, a, b, c, d⟩ => ⟨q, vs, a, b, c.mono s, d⟩
theorem FvR.frame {K : Fg} {F H H' : Hp} {fp : List Addr} {v : V} (f : ∀ a ∈ fp, H' a = H a) : ∀ {x : FV}, FvR K F H fp v x → FvR K F H' fp v x
  | .sh _, h => h
  | .li _, ⟨q, vs, a, b, c, d⟩ => ⟨q, vs, a, by rw [f q (by rw [d]; simp)]; exact b, c, d⟩
  | .dk _, ⟨q, vs, a, b, c, d⟩ => ⟨q, vs, a, by rw [f q (by rw [d]; simp)]; exact b, c, d⟩
  | .dt _, ⟨q, vs, a, b, c, d⟩ => ⟨q, vs, a, by rw [f q (by rw [d]; simp)]; exact b, c, d⟩
def insO {τ : Type} (c : Addr) (ns : List Str) (f : τ → List FV) (pin : Option (Addr × HO)) : Stor τ where
  rel := fun K F H fp v x => ∃ p dx vs fps, v = .ref p ∧ H p = some (.ins c dx (ns.zip vs)) ∧ vs.length = ns.length ∧ RelAll (FvR K F H) fps vs (f x) ∧ fp = p :: fps ∧ ∀ t, pin = some t → t.1 = p ∧ H p = some t.2
  monoF := fun s h => by
    obtain ⟨p, dx, vs, fps, rfl, hp, hl, r, rfl, pn⟩ := h
    exact ⟨p, dx, vs, fps, rfl, hp, hl, r.imp fun _ _ _ _ q => q.mono s, rfl, pn⟩
  frame := fun g h => by
    obtain ⟨p, dx, vs, fps, rfl, hp, hl, r, rfl, pn⟩ := h
    exact ⟨p, dx, vs, fps, rfl, by rw [g p (by simp)]; exact hp, hl, r.imp fun fq _ _ s q => q.frame fun a m => g a (List.mem_cons_of_mem _ (s a m)), rfl, by rw [g p (by simp)]; exact pn⟩
theorem insO.ins {τ : Type} {c : Addr} {ns : List Str} {f : τ → List FV} {pin : Option (Addr × HO)} {K : Fg} {F H : Hp} {fp : List Addr} {v : V} {x : τ} (h : (insO c ns f pin).rel K F H fp v x) : ∃ p dx vs, v = .ref p ∧ H p = some (.ins c dx (ns.zip vs)) := by
  obtain ⟨p, dx, vs, _, e, hp, _⟩ := h
  exact ⟨p, dx, vs, e, hp⟩
/-- a slot, lent or not -/
def slotOf (b : Option (Option V)) (τ : Type) (S : Stor τ) (x : τ) : Slot := match b with
  | none => .lk τ S x
  | some w => .st w τ S x
section
variable {C : Ck} {F F' H H' : Hp} {σ σs : List (Option V)} {env es : Env} {τ τ' : Type} {S : Stor τ} {S' : Stor τ'} {x : τ} {x' : τ'} {i : Nat} {b : Option (Option V)} {s s' : Slot}
theorem ER.reslot (h : ER C F H σ env) (e : env[i]? = some s) (hs : ∀ fp, SlotOk C F H (σ[i]?.join) s fp → SlotOk C F H (σ[i]?.join) s' fp) : ER C F H σ (env.set i s') := by
  obtain ⟨fp, q⟩ := h.sl
  obtain ⟨hi, _⟩ := List.getElem?_eq_some_iff.mp e
  refine ⟨h.sB, h.sF, h.gr, h.up, by simp [h.len], fp, ⟨fun j s2 ej => ?_, fun j hj => q.own j (by simpa using hj), fun j l hj hl => q.sep j l (by simpa using hj) (by simpa using hl), fun j hj => q.nd j (by simpa using hj)⟩⟩
  by_cases z : j = i
  · subst z
    rw [List.getElem?_set_self hi] at ej
    cases ej
    exact hs _ (q.ok j _ e)
  · rw [List.getElem?_set_ne (fun y => z y.symm)] at ej
    exact q.ok j s2 ej
theorem ER.lookB (h : ER C F H (σs ++ σ) (es ++ env)) (hl : σs.length = es.length) (e : env[i]? = some (slotOf b τ S x)) : ∃ v fp, σ[i]? = some (some v) ∧ S.rel C.K F H fp v x := by
  cases b with
  | none => exact h.lookKF hl e
  | some w => exact h.lookF hl e
theorem ER.reslotB (h : ER C F H (σs ++ σ) (es ++ env)) (hl : σs.length = es.length) (e : env[i]? = some (slotOf b τ S x)) (im : ∀ fp v, σ[i]? = some (some v) → S.rel C.K F H fp v x → S'.rel C.K F H fp v x') : ER C F H (σs ++ σ) (es ++ env.set i (slotOf b τ' S' x')) := by
  have jn : ∀ v, σ[i]?.join = some v → σ[i]? = some (some v) := fun v e1 => by
    cases z : σ[i]? with
    | none => rw [z] at e1; cases e1
    | some o => rw [z] at e1; exact congrArg some e1
  have := h.reslot (i := es.length + i) (s' := slotOf b τ' S' x') (by rw [at_app _ rfl]; exact e) (fun fp k => by
    rw [at_app _ hl] at k ⊢
    cases b with
    | none =>
      obtain ⟨e0, v, fq, e1, r, q⟩ := k
      exact ⟨e0, v, fq, e1, im fq v (jn v e1) r, q⟩
    | some w =>
      obtain ⟨v, e1, r, q⟩ := k
      exact ⟨v, e1, im fp v (jn v e1) r, q⟩)
  rw [List.set_append_right _ _ (Nat.le_add_right _ _), Nat.add_sub_cancel_left] at this
  exact this
end
theorem set_back {α : Type _} {l : List α} {i : Nat} {a b : α} (h : l[i]? = some a) : (l.set i b).set i a = l := by
  rw [List.set_set]
  refine List.ext_getElem? fun j => ?_
  by_cases z : i = j
  · subst z
    rw [List.getElem?_set_self (lt_of_get h), h]
  · rw [List.getElem?_set_ne z]
section
variable {C : Ck} {F H : Hp} {σ σs : List (Option V)} {env es : Env} {τ : Type} {x : τ} {i : Nat} {b : Option (Option V)} {c : Addr} {ns : List Str} {f : τ → List FV}
theorem ER.pinO (h : ER C F H (σs ++ σ) (es ++ env)) (hl : σs.length = es.length) (e : env[i]? = some (slotOf b τ (insO c ns f none) x)) : ∃ p dx vs fps, σ[i]? = some (some (.ref p)) ∧ H p = some (.ins c dx (ns.zip vs)) ∧ vs.length = ns.length ∧ RelAll (FvR C.K F H) fps vs (f x) ∧
    ER C F H (σs ++ σ) (es ++ env.set i (slotOf b τ (insO c ns f (some (p, .ins c dx (ns.zip vs)))) x)) := by
  obtain ⟨v, fp, e1, p, dx, vs, fps, rfl, hp, hlv, r, rfl, _⟩ := h.lookB hl e
  refine ⟨p, dx, vs, fps, e1, hp, hlv, r, h.reslotB hl e fun fp v ev r2 => ?_⟩
  rw [e1] at ev; cases ev
  obtain ⟨p', dx', vs', fps', e2, hp', hlv', r', e3, _⟩ := r2
  exact ⟨p', dx', vs', fps', e2, hp', hlv', r', e3, fun t et => by cases et; cases e2; exact ⟨rfl, hp⟩⟩
theorem ER.unpinO {t : Addr × HO} (h : ER C F H (σs ++ σ) (es ++ env.set i (slotOf b τ (insO c ns f (some t)) x))) (hl : σs.length = es.length) (e : env[i]? = some (slotOf b τ (insO c ns f none) x)) : ER C F H (σs ++ σ) (es ++ env) := by
  have := h.reslotB (S' := insO c ns f none) (x' := x) hl (List.getElem?_set_self (lt_of_get e)) fun fp v ev r2 => by
    obtain ⟨p', dx', vs', fps', e2, hp', hlv', r', e3, _⟩ := r2
    exact ⟨p', dx', vs', fps', e2, hp', hlv', r', e3, fun t et => by cases et⟩
  rw [set_back e] at this
  exact this
end
section
variable {X : Cx} {Ω : Type} {env : Env} {nm fn : Str} {np ap sp pos : Pos} {τ α Pt : Type} {E : Enc α} {c : Addr} {ns : List Str} {f : τ → List FV} {x : τ} {y : α} {ie : Expr}
/-- x.f, shared data -/
theorem lx_fldO {pin : Option (Addr × HO)} (b : Option (Option V)) (i j : Nat) (cl : Cls X.K c) (na : NoAttr X.K c fn) (h0 : env[i]? = some (slotOf b τ (insO c ns f pin) x)) (hj : ns[j]? = some fn) (hy : (f x)[j]? = some (.sh (E.enc y))) (nd : ns.Nodup := by decide +kernel) (hN : X.N[i]? = some nm := by rfl) (hv : Vis X.env.scope nm := by first | exact Or.inl rfl | exact Or.inr (Or.inl rfl) | exact Or.inr (Or.inr rfl))
    (hd : (nm == ("__debug__" : Str)) = false := by decide) (hcd : (nm == ("__classdict__" : Str)) = false := by decide) (hb : attributeBase (.Name nm np) fn X.env (eval (.Name nm np) X.env) = eval (.Name nm np) X.env := by rfl) :
    LX X env (.Attribute (.Name nm np) fn ap) (it E) (fun _ : Unit => env) (fun (k : α → Unit → Option Ω) => k y ()) := by
  refine fun C F H σs es σ k ω Q hK hl h hk q => tE.of X (pe_fld (pe_var hN hv hd hcd) hb) ?_
  obtain ⟨v, fp, e1, p, dx, vs, fps, rfl, hp, hlv, r, rfl, _⟩ := h.lookB hl h0
  obtain ⟨_, fq, _, u, _, hu, ru, _⟩ := r.split hy
  exact ⟨.ref p, e1, p, c, dx, _, u, rfl, hp, cl, na, zip_look nd hj hu, q y () u F H hk (h.pushSh ru.2)⟩
/-- x.f[i], a list of one's own -/
theorem lx_fldIxO {ys : List α} {fi : (Int → Pt → Option Ω) → Option Ω} (b : Option (Option V)) (i j : Nat) (cl : Cls X.K c) (na : NoAttr X.K c fn) (h0 : env[i]? = some (slotOf b τ (insO c ns f none) x)) (hj : ns[j]? = some fn) (hy : (f x)[j]? = some (.li (ys.map E.enc)))
    (hi : ∀ t, LX X (env.set i (slotOf b τ (insO c ns f (some t)) x)) ie (it eI) (fun _ : Pt => env.set i (slotOf b τ (insO c ns f (some t)) x)) fi) (nd : ns.Nodup := by decide +kernel) (hN : X.N[i]? = some nm := by rfl) (hv : Vis X.env.scope nm := by first | exact Or.inl rfl | exact Or.inr (Or.inl rfl) | exact Or.inr (Or.inr rfl))
    (hd : (nm == ("__debug__" : Str)) = false := by decide) (hcd : (nm == ("__classdict__" : Str)) = false := by decide) (hb : attributeBase (.Name nm np) fn X.env (eval (.Name nm np) X.env) = eval (.Name nm np) X.env := by rfl) (hp : PlainIx ie := by exact fun _ _ => rfl) :
    LX X env (.Subscript (.Attribute (.Name nm np) fn ap) ie sp) (it E) (fun _ : Pt => env) (fun k => fi fun n p => (atI ys n).bind fun y => k y p) :=
  fun C F H σs es σ k ω Q hK hl h hk q => tE.of X (pe_ix ix_list (pe_fld (pe_var hN hv hd hcd) hb) (peC X) hp) (by
    obtain ⟨p, dx, vs, fps, e1, hpp, hlv, r, hpn⟩ := h.pinO hl h0
    obtain ⟨_, _, _, u0, _, hu0, _, _⟩ := r.split hy
    have lk0 := zip_look nd hj hu0
    refine ⟨.ref p, e1, p, c, dx, _, u0, rfl, hpp, cl, na, lk0, hi _ C F H σs es σ _ ω _ hK hl hpn hk fun n pt v F' H' hk2 h2 => ?_⟩
    obtain ⟨y, ey, hk3⟩ := bind_some hk2
    have hv : v = .int n := by
      obtain ⟨v', fp, e1, r⟩ := h2.look (i := 0) rfl
      simp at e1; subst e1
      obtain ⟨_, r⟩ := r
      cases r; rfl
    subst hv
    have h3 : ER C F' H' (σs ++ σ) (es ++ env.set i (slotOf b τ (insO c ns f (some (p, .ins c dx (ns.zip vs)))) x)) := h2.pop
    obtain ⟨v2, fp2, e2, p2, dx2, vs2, fps2, rfl, hp2, hlv2, r2, rfl, pn⟩ := h3.lookB hl (List.getElem?_set_self (lt_of_get h0))
    rw [e1] at e2; cases e2
    have po := (pn _ rfl).2
    rw [hp2] at po
    simp only [Option.some.injEq, HO.ins.injEq] at po
    obtain ⟨_, fq, _, u, _, hu, ru, _⟩ := r2.split hy
    have lk := zip_look nd hj hu
    rw [po.2.2, lk0] at lk
    cases lk
    obtain ⟨q1, ws, rfl, hq, rw1, rfl⟩ := ru
    have hlen := rw1.length
    rw [List.length_map] at hlen
    have ey2 := ey
    unfold atI at ey2
    obtain ⟨m, em, ey3⟩ := bind_some ey2
    obtain ⟨w0, ew, rw0⟩ := rw1.get (i := m) (d := E.enc y) (by rw [List.getElem?_map, ey3]; rfl)
    refine ⟨q1, ws, n, w0, rfl, rfl, SqL.of hq, by unfold atI; rw [hlen, em]; exact ew, ?_⟩
    exact q y pt w0 F' H' hk3 ((h3.unpinO hl h0).pushSh rw0))
/-- x.f, a list of one's own: is it empty? -/
theorem lt_fldTruO {ys : List α} {pin : Option (Addr × HO)} (b : Option (Option V)) (i j : Nat) (cl : Cls X.K c) (na : NoAttr X.K c fn) (h0 : env[i]? = some (slotOf b τ (insO c ns f pin) x)) (hj : ns[j]? = some fn) (hy : (f x)[j]? = some (.li (ys.map E.enc))) (nd : ns.Nodup := by decide +kernel) (hN : X.N[i]? = some nm := by rfl) (hv : Vis X.env.scope nm := by first | exact Or.inl rfl | exact Or.inr (Or.inl rfl) | exact Or.inr (Or.inr rfl))
    (hd : (nm == ("__debug__" : Str)) = false := by decide) (hcd : (nm == ("__classdict__" : Str)) = false := by decide) (hb : attributeBase (.Name nm np) fn X.env (eval (.Name nm np) X.env) = eval (.Name nm np) X.env := by rfl)
    (he : ∀ whole, isTrue (.Attribute (.Name nm np) fn ap) X.env whole = (do let v ← whole; standAt (Expr.Attribute (.Name nm np) fn ap).pos; holding [v] (truthy v)) := by intro _; rfl) :
    LT X env (.Attribute (.Name nm np) fn ap) (fun _ : Unit => env) (fun (k : Bool → Unit → Option Ω) => k (!ys.isEmpty) ()) :=
  fun C F H σs es σ k ω Q hK hl h hk q => tT.of X (pt_truth (pe_fld (pe_var hN hv hd hcd) hb) he) (by
    obtain ⟨v, fp, e1, p, dx, vs, fps, rfl, hp, hlv, r, rfl, _⟩ := h.lookB hl h0
    obtain ⟨_, fq, _, u, _, hu, ru, _⟩ := r.split hy
    obtain ⟨q1, ws, rfl, hq, rw1, rfl⟩ := ru
    refine ⟨.ref p, e1, p, c, dx, _, .ref q1, rfl, hp, cl, na, zip_look nd hj hu, !ys.isEmpty, .inl ⟨ws, SqL.of hq, ?_⟩, q _ () F H hk h⟩
    have := rw1.length
    cases ws <;> cases ys <;> simp_all)
end
section
variable {X : Cx} {Ω : Type} {env : Env} {nm fn : Str} {np ap sp pos : Pos} {τ τ' α P P2 R I J : Type} {E : Enc α} {c : Addr} {ns ns' : List Str} {f : τ → List FV} {f' : τ' → List FV} {w : Option V} {e ie : Expr} {e' : P → Env} {SR : Stor R} {envR : I → Env} {kr : R → I → Option Ω} {bk ct : Lp Ω} {rest : List Stmt} {envJ : J → Env}
/-- __init__ begins -/
theorem lb_cv0 {sts : List Stmt} {g : (J → Option Ω) → Option Ω} (i : Nat) (h0 : env[i]? = some (.st w Unit (insN c) ())) (h : LB X SR envR kr bk ct (env.set i (.st w Unit (insO c [] (fun _ : Unit => []) none) ())) sts envJ g) : LB X SR envR kr bk ct env sts envJ g :=
  fun C F H σs es σ kn ω D hK hl hr hk qn qb qc qr => h C F H σs es σ kn ω D hK hl (by
    have := hr.reslotB (b := some w) (S' := insO c [] (fun _ : Unit => []) none) (x' := ()) hl h0 fun fp v ev r => by
      obtain ⟨p, dx, vs, rfl, hp, hlv, ra, rfl⟩ := r
      cases vs with
      | nil => exact ⟨p, dx, [], [], rfl, hp, rfl, .nil, rfl, fun t et => by cases et⟩
      | cons _ _ => simp at hlv
    exact this) hk qn qb qc qr
/-- x.f = e, any field -/
theorem lb_fldX {τ0 : Type} {S0 : Stor τ0} {fe : (τ0 → P → Option Ω) → Option Ω} {fr : τ0 → P → (J → Option Ω) → Option Ω} {t : P → τ} (i : Nat) (u : τ0 → P → τ') (cl : Cls X.K c) (na : NoAttr X.K c fn) (he : LX X env e S0 e' fe) (h1 : ∀ p, (e' p)[i]? = some (.st w τ (insO c ns f none) (t p)))
    (hput : ∀ y p (K : Fg) (F H : Hp) vs fps v fq, vs.length = ns.length → RelAll (FvR K F H) fps vs (f (t p)) → S0.rel K F H fq v y → (∀ a ∈ fq, a ∉ fps) → ∃ vs' fps', vs'.length = ns'.length ∧ putF fn v (ns.zip vs) = ns'.zip vs' ∧ RelAll (FvR K F H) fps' vs' (f' (u y p)) ∧ (∀ a ∈ fps', a ∈ fps ++ fq) ∧ ((fps ++ fq).Nodup → fps'.Nodup)) (hsz : ns.length < 1000)
    (hr : ∀ y p, LB X SR envR kr bk ct ((e' p).set i (.st w τ' (insO c ns' f' none) (u y p))) rest envJ (fr y p))
    (hN : X.N[i]? = some nm := by rfl) (hv : Vis X.env.scope nm := by first | exact Or.inl rfl | exact Or.inr (Or.inl rfl) | exact Or.inr (Or.inr rfl)) (hd : (nm == ("__debug__" : Str)) = false := by decide) (hcd : (nm == ("__classdict__" : Str)) = false := by decide)
    (hs : swapsWith e (some (.Attribute (.Name nm np) fn ap)) pos.line X.env = pure false := by rfl) :
    LB X SR envR kr bk ct env (.Assign [.Attribute (.Name nm np) fn ap] e pos :: rest) envJ (fun kn => fe fun y p => fr y p kn) :=
  fun C F H σs es σ kn ω D hK hl h hk qn qb qc qr => tSs.of X (pss_cons (ps_fld (pe_var hN hv hd hcd) (peC X) hs) (pssC X)) (he C F H σs es σ _ ω _ hK hl h hk fun y p v F' H' hk' h' => by
    obtain ⟨l, fp, v0, fq, e1, e2, r1, r0, nd, ow, fin⟩ := h'.absorb (i := es.length + i) (by rw [at_app _ rfl]; exact h1 p)
    rw [at_app _ hl] at e1
    cases e2
    obtain ⟨p0, dx, vs, fps, rfl, hp, hlen, ra, rfl, _⟩ := r1
    have nd1 : p0 ∉ fps ++ fq ∧ (fps ++ fq).Nodup := by
      have : (p0 :: (fps ++ fq)).Nodup := by simpa using nd
      exact List.nodup_cons.1 this
    obtain ⟨vs', fps', hl', hpt, ra', sub, nd'⟩ := hput y p C.K F' H' vs fps v fq hlen ra r0 (fun a m m2 => by
      have := (List.nodup_append.1 nd1.2).2.2 a m2 a m
      exact this rfl)
    refine ⟨_, e1, p0, c, dx, _, rfl, hp, cl, na, by rw [List.length_zip, hlen, Nat.min_self]; exact hsz, ?_⟩
    rw [hpt]
    have fin' := fin τ' (insO c ns' f' none) (u y p) (upd H' p0 (.ins c dx (ns'.zip vs'))) (p0 :: fps') (fun a na _ => upd_ne fun z => na (by rw [z]; simp)) (fun a m => ?_) ⟨p0, dx, vs', fps', rfl, upd_same, hl', ra'.imp fun fr w y s q => q.frame fun a m => upd_ne fun z => nd1.1 (sub p0 (by have := s a m; rw [z] at this; exact this)), rfl, fun t et => by cases et⟩ (List.nodup_cons.2 ⟨fun m => nd1.1 (sub _ m), nd' nd1.2⟩) (fun a m => ?_)
    · rw [List.set_append_right _ _ (Nat.le_add_right _ _), Nat.add_sub_cancel_left] at fin'
      exact hr y p C F' _ σs es σ kn ω D hK hl fin' hk' qn qb qc qr
    · by_cases z : a = p0
      · subst z; rw [upd_same]; exact fun z => by cases z
      · rw [upd_ne z]; exact m
    · have ma : a ∈ p0 :: (fps ++ fq) := by
        rcases List.mem_cons.1 m with rfl | m
        · simp
        · exact List.mem_cons_of_mem _ (sub a m)
      have oa := ow a (by simpa using ma)
      refine ⟨?_, .inl (by simpa using ma)⟩
      by_cases z : a = p0
      · subst z; rw [upd_same]; exact fun z => by cases z
      · rw [upd_ne z]; exact oa.2.2)
theorem RelAll.setV {α : Type} {R : List Addr → V → α → Prop} {v : V} {x x0 : α} : ∀ {fp : List Addr} {vs : List V} {xs : List α} {j : Nat}, RelAll R fp vs xs → xs[j]? = some x0 → (∀ fq w, R fq w x0 → fq = []) → R [] v x → RelAll R fp (vs.set j v) (xs.set j x)
  | _, _, _, j, .nil, e, _, _ => by simp at e
  | _, _, _, 0, .cons (fp := f1) (fps := f2) a r, e, z, h => by
    simp at e; subst e
    rw [z _ _ a]
    exact RelAll.cons h r
  | _, _, _, j + 1, .cons (fp := f1) (fps := f2) a r, e, z, h => RelAll.cons a (RelAll.setV r (by simpa using e) z h)
theorem RelAll.snoc {α : Type} {R : List Addr → V → α → Prop} {fq : List Addr} {v : V} {x : α} (h : R fq v x) : ∀ {fp : List Addr} {vs : List V} {xs : List α}, RelAll R fp vs xs → RelAll R (fp ++ fq) (vs ++ [v]) (xs ++ [x])
  | _, _, _, .nil => by
    have := RelAll.cons h (RelAll.nil (R := R))
    simpa using this
  | _, _, _, .cons (fp := f1) (fps := f2) a r => by
    have := RelAll.cons a (RelAll.snoc h r)
    simpa [List.append_assoc] using this
/-- .. a new field, shared -/
theorem lb_fldNO {fe : (α → P → Option Ω) → Option Ω} {fr : α → P → (J → Option Ω) → Option Ω} {t : P → τ} (i : Nat) (f' : τ' → List FV) (u : α → P → τ') (cl : Cls X.K c) (na : NoAttr X.K c fn) (he : LX X env e (it E) e' fe) (h1 : ∀ p, (e' p)[i]? = some (.st w τ (insO c ns f none) (t p)))
    (hu : ∀ y p, f' (u y p) = f (t p) ++ [.sh (E.enc y)])
    (hr : ∀ y p, LB X SR envR kr bk ct ((e' p).set i (.st w τ' (insO c (ns ++ [fn]) f' none) (u y p))) rest envJ (fr y p))
    (hno : fn ∉ ns := by decide +kernel) (hsz : ns.length < 1000 := by decide)
    (hN : X.N[i]? = some nm := by rfl) (hv : Vis X.env.scope nm := by first | exact Or.inl rfl | exact Or.inr (Or.inl rfl) | exact Or.inr (Or.inr rfl)) (hd : (nm == ("__debug__" : Str)) = false := by decide) (hcd : (nm == ("__classdict__" : Str)) = false := by decide)
    (hs : swapsWith e (some (.Attribute (.Name nm np) fn ap)) pos.line X.env = pure false := by rfl) :
    LB X SR envR kr bk ct env (.Assign [.Attribute (.Name nm np) fn ap] e pos :: rest) envJ (fun kn => fe fun y p => fr y p kn) :=
  lb_fldX i u cl na he h1 (fun y p K F H vs fps v fq hl ra r0 _ => ⟨vs ++ [v], fps, by simp [hl], putF_new hno hl, by
    rw [hu]
    have := RelAll.snoc (R := FvR K F H) (fq := []) (x := .sh (E.enc y)) ⟨rfl, r0.2⟩ ra
    simpa using this, fun a m => List.mem_append_left _ m, fun n => (List.nodup_append.1 n).1⟩) hsz hr hN hv hd hcd hs
/-- .. a new field, a list of one's own -/
theorem lb_fldNL {fe : (List α → P → Option Ω) → Option Ω} {fr : List α → P → (J → Option Ω) → Option Ω} {t : P → τ} (i : Nat) (f' : τ' → List FV) (u : List α → P → τ') (cl : Cls X.K c) (na : NoAttr X.K c fn) (he : LX X env e (ls (it E)) e' fe) (h1 : ∀ p, (e' p)[i]? = some (.st w τ (insO c ns f none) (t p)))
    (hu : ∀ y p, f' (u y p) = f (t p) ++ [.li (y.map E.enc)])
    (hr : ∀ y p, LB X SR envR kr bk ct ((e' p).set i (.st w τ' (insO c (ns ++ [fn]) f' none) (u y p))) rest envJ (fr y p))
    (hno : fn ∉ ns := by decide +kernel) (hsz : ns.length < 1000 := by decide)
    (hN : X.N[i]? = some nm := by rfl) (hv : Vis X.env.scope nm := by first | exact Or.inl rfl | exact Or.inr (Or.inl rfl) | exact Or.inr (Or.inr rfl)) (hd : (nm == ("__debug__" : Str)) = false := by decide) (hcd : (nm == ("__classdict__" : Str)) = false := by decide)
    (hs : swapsWith e (some (.Attribute (.Name nm np) fn ap)) pos.line X.env = pure false := by rfl) :
    LB X SR envR kr bk ct env (.Assign [.Attribute (.Name nm np) fn ap] e pos :: rest) envJ (fun kn => fe fun y p => fr y p kn) :=
  lb_fldX i u cl na he h1 (fun y p K F H vs fps v fq hl ra r0 _ => by
    obtain ⟨q, ws, fp2, rfl, hq, rz, rfl⟩ := r0
    obtain ⟨rfl, rp⟩ := rz.zero
    exact ⟨vs ++ [.ref q], fps ++ [q], by simp [hl], putF_new hno hl, by
      rw [hu]
      exact RelAll.snoc (R := FvR K F H) (fq := [q]) (x := .li (y.map E.enc)) ⟨q, ws, rfl, hq, rp, rfl⟩ ra, fun a m => m, fun n => n⟩) hsz hr hN hv hd hcd hs
/-- .. a shared field that is there -/
theorem lb_fldOO {fe : (α → P → Option Ω) → Option Ω} {fr : α → P → (J → Option Ω) → Option Ω} {t : P → τ} {d0 : P → PyData} (i j : Nat) (u : α → P → τ) (cl : Cls X.K c) (na : NoAttr X.K c fn) (he : LX X env e (it E) e' fe) (h1 : ∀ p, (e' p)[i]? = some (.st w τ (insO c ns f none) (t p)))
    (hj : ns[j]? = some fn) (hx : ∀ p, (f (t p))[j]? = some (.sh (d0 p))) (hu : ∀ y p, f (u y p) = (f (t p)).set j (.sh (E.enc y)))
    (hr : ∀ y p, LB X SR envR kr bk ct ((e' p).set i (.st w τ (insO c ns f none) (u y p))) rest envJ (fr y p))
    (nd : ns.Nodup := by decide +kernel) (hsz : ns.length < 1000 := by decide)
    (hN : X.N[i]? = some nm := by rfl) (hv : Vis X.env.scope nm := by first | exact Or.inl rfl | exact Or.inr (Or.inl rfl) | exact Or.inr (Or.inr rfl)) (hd : (nm == ("__debug__" : Str)) = false := by decide) (hcd : (nm == ("__classdict__" : Str)) = false := by decide)
    (hs : swapsWith e (some (.Attribute (.Name nm np) fn ap)) pos.line X.env = pure false := by rfl) :
    LB X SR envR kr bk ct env (.Assign [.Attribute (.Name nm np) fn ap] e pos :: rest) envJ (fun kn => fe fun y p => fr y p kn) :=
  lb_fldX i u cl na he h1 (fun y p K F H vs fps v fq hl ra r0 _ => by
    obtain ⟨fp1, fq1, fp2, u0, rfl, hu0, ru, put⟩ := ra.split (hx p)
    obtain ⟨rfl, _⟩ := ru
    have := RelAll.setV (R := FvR K F H) ra (x := .sh (E.enc y)) (v := v) (hx p) (fun fq0 w0 h => h.1) (⟨rfl, r0.2⟩ : FvR K F H [] v (.sh (E.enc y)))
    exact ⟨vs.set j v, _, by rw [List.length_set]; exact hl, putF_old nd hj hl, by rw [hu]; exact this, fun a m => List.mem_append_left _ m, fun n => (List.nodup_append.1 n).1⟩) hsz hr hN hv hd hcd hs
end
/-! ### methods -/
section
variable {X : Cx} {Ω : Type} {env : Env} {vn mn : Str} {pos ap vp : Pos} {e : Expr} {xs : List Expr} {Pt A R T : Type} {SR : Stor R} {e' : Pt → Env} {sl : A → Env} {k : Nat} {f c : Addr} {fd : FuncData} {ps ns : List Str} {g : T → List FV}
/-- x.f(..), f changes x -/
theorem lx_methIO {w : Option V} {t0 : T} {t : Pt → T} {m : T → A → Option (R × T)} {fa : (A → Pt → Option Ω) → Option Ω} {pl : Sem Bool} (i : Nat) (cl : Cls X.K c) (hm : Meth X.K c mn f) (Fn : FnOk X.prog X.w X.K X.mg X.base CX0 k f fd ps (spI X.K (insO c ns g none) sl SR m)) (hr : Room k X.A) (hb : Binds X.K fd ps []) (sh : ∀ a, ShE (sl a))
    (h0 : env[i]? = some (.st w T (insO c ns g none) t0)) (ha : LA X env (e :: xs) sl e' fa) (h1 : ∀ p, (e' p)[i]? = some (.st w T (insO c ns g none) (t p))) (hno : mn ∉ ns := by decide +kernel) (hN : X.N[i]? = some vn := by rfl) (hv : Vis X.env.scope vn := by first | exact Or.inl rfl | exact Or.inr (Or.inl rfl) | exact Or.inr (Or.inr rfl)) (hd : (vn == ("__debug__" : Str)) = false := by decide) (hcd : (vn == ("__classdict__" : Str)) = false := by decide)
    (he : starEach (e :: xs) X.env = (false, eval e X.env) :: starEach xs X.env := by rfl) (hpl : (backTo pos (starEach xs X.env)).any (·.1) = false := by rfl) (ht : eval (.Call (.Attribute (.Name vn vp) mn ap) (e :: xs) [] pos) X.env = (do let ov ← eval (.Name vn vp) X.env; standAt ap.atName; let (f, first) ← holding [ov] (getMethod ov mn pl); callWith pos f first (backTo pos (starEach (e :: xs) X.env)) (backToKw pos (keywordEach [] X.env))) := by rfl) :
    LX X env (.Call (.Attribute (.Name vn vp) mn ap) (e :: xs) [] pos) SR (fun p : Pt × T => (e' p.1).set i (.st w T (insO c ns g none) p.2)) (fun k => fa fun a p => (m (t p) a).bind fun r => k r.1 (p, r.2)) :=
  fun C F H σs es σ k ω Q hK hl h hk' q => tE.of X (pe_meth (pe_var hN hv hd hcd) cl hm Fn hr hb .nil pass0 (paC X) he hpl ht) (by
    obtain ⟨v0, fp, e1, r⟩ := h.lookF hl h0
    obtain ⟨p0, dx, vs0, _, rfl, hp, _, _, rfl, _⟩ := r
    refine ⟨.ref p0, e1, p0, dx, _, rfl, hp, zip_no hno, ha C F H σs es σ _ ω _ hK hl h hk' fun a p vs F' H' hk2 hlv h' => ?_⟩
    obtain ⟨⟨r, t'⟩, hm', hk2⟩ := bind_some hk2
    show spI X.K (insO c ns g none) sl SR m (.ref p0 :: vs ++ []) H' Q _
    rw [List.append_nil, ← hK]
    have h2 : ER C F' H' (vs.map some ++ (σs ++ σ)) (sl a ++ (es ++ e' p)) := h'
    obtain ⟨B, io, g1, g2⟩ := h2.enterI (i := es.length + i) (v0 := .ref p0) hlv (sh a) (by rw [at_app _ rfl]; exact h1 p) (by rw [at_app _ hl]; exact e1)
    refine ⟨B, F', io, t p, a, r, t', .ref p0, vs, rfl, hm', hlv, g1, fun F2 H2 v h3 => ?_⟩
    obtain ⟨F3, h4⟩ := g2 R SR r t' F2 H2 v h3
    rw [List.set_append_right _ _ (Nat.le_add_right _ _), Nat.add_sub_cancel_left] at h4
    exact q r (p, t') v F3 H2 hk2 h4)
theorem lx_methIO0 {w : Option V} {t0 : T} {m : T → Unit → Option (R × T)} {pl : Sem Bool} (i : Nat) (cl : Cls X.K c) (hm : Meth X.K c mn f) (Fn : FnOk X.prog X.w X.K X.mg X.base CX0 k f fd ps (spI X.K (insO c ns g none) (fun _ : Unit => []) SR m)) (hr : Room k X.A) (hb : Binds X.K fd ps [])
    (h0 : env[i]? = some (.st w T (insO c ns g none) t0)) (hno : mn ∉ ns := by decide +kernel) (hN : X.N[i]? = some vn := by rfl) (hv : Vis X.env.scope vn := by first | exact Or.inl rfl | exact Or.inr (Or.inl rfl) | exact Or.inr (Or.inr rfl)) (hd : (vn == ("__debug__" : Str)) = false := by decide) (hcd : (vn == ("__classdict__" : Str)) = false := by decide) (ht : eval (.Call (.Attribute (.Name vn vp) mn ap) [] [] pos) X.env = (do let ov ← eval (.Name vn vp) X.env; standAt ap.atName; let (f, first) ← holding [ov] (getMethod ov mn pl); callWith pos f first (backTo pos (starEach [] X.env)) (backToKw pos (keywordEach [] X.env))) := by rfl) :
    LX X env (.Call (.Attribute (.Name vn vp) mn ap) [] [] pos) SR (fun p : T => env.set i (.st w T (insO c ns g none) p)) (fun (k : R → T → Option Ω) => (m t0 ()).bind fun r => k r.1 r.2) :=
  fun C F H σs es σ k ω Q hK hl h hk' q => tE.of X (pe_meth0 (pe_var hN hv hd hcd) cl hm Fn hr hb .nil pass0 ht) (by
    obtain ⟨v0, fp, e1, r⟩ := h.lookF hl h0
    obtain ⟨p0, dx, vs0, _, rfl, hp, _, _, rfl, _⟩ := r
    refine ⟨.ref p0, e1, p0, dx, _, rfl, hp, zip_no hno, ?_⟩
    obtain ⟨⟨r, t'⟩, hm', hk2⟩ := bind_some hk'
    show spI X.K (insO c ns g none) (fun _ : Unit => []) SR m [.ref p0] H Q E0
    rw [← hK]
    obtain ⟨B, io, g1, g2⟩ := ER.enterI (σa := []) (ea := []) (σ := σs ++ σ) (env := es ++ env) (i := es.length + i) (v0 := .ref p0) h rfl .nil (by rw [at_app _ rfl]; exact h0) (by rw [at_app _ hl]; exact e1)
    refine ⟨B, F, io, t0, (), r, t', .ref p0, [], rfl, hm', rfl, g1, fun F2 H2 v h3 => ?_⟩
    obtain ⟨F3, h4⟩ := g2 R SR r t' F2 H2 v h3
    rw [List.set_append_right _ _ (Nat.le_add_right _ _), Nat.add_sub_cancel_left] at h4
    exact q r t' v F3 H2 hk2 h4)
/-- x.f(..), f reads x -/
theorem lx_methLO {w : Option V} {t0 : T} {t : Pt → T} {m : T → A → Option R} {fa : (A → Pt → Option Ω) → Option Ω} {pl : Sem Bool} (i : Nat) (cl : Cls X.K c) (hm : Meth X.K c mn f) (Fn : FnOk X.prog X.w X.K X.mg X.base CX0 k f fd ps (spL X.K (insO c ns g none) sl SR m)) (hr : Room k X.A) (hb : Binds X.K fd ps []) (sh : ∀ a, ShE (sl a))
    (h0 : env[i]? = some (.st w T (insO c ns g none) t0)) (ha : LA X env (e :: xs) sl e' fa) (h1 : ∀ p, (e' p)[i]? = some (.st w T (insO c ns g none) (t p))) (hno : mn ∉ ns := by decide +kernel) (hN : X.N[i]? = some vn := by rfl) (hv : Vis X.env.scope vn := by first | exact Or.inl rfl | exact Or.inr (Or.inl rfl) | exact Or.inr (Or.inr rfl)) (hd : (vn == ("__debug__" : Str)) = false := by decide) (hcd : (vn == ("__classdict__" : Str)) = false := by decide)
    (he : starEach (e :: xs) X.env = (false, eval e X.env) :: starEach xs X.env := by rfl) (hpl : (backTo pos (starEach xs X.env)).any (·.1) = false := by rfl) (ht : eval (.Call (.Attribute (.Name vn vp) mn ap) (e :: xs) [] pos) X.env = (do let ov ← eval (.Name vn vp) X.env; standAt ap.atName; let (f, first) ← holding [ov] (getMethod ov mn pl); callWith pos f first (backTo pos (starEach (e :: xs) X.env)) (backToKw pos (keywordEach [] X.env))) := by rfl) :
    LX X env (.Call (.Attribute (.Name vn vp) mn ap) (e :: xs) [] pos) SR e' (fun k => fa fun a p => (m (t p) a).bind fun r => k r p) :=
  fun C F H σs es σ k ω Q hK hl h hk' q => tE.of X (pe_meth (pe_var hN hv hd hcd) cl hm Fn hr hb .nil pass0 (paC X) he hpl ht) (by
    obtain ⟨v0, fp, e1, r⟩ := h.lookF hl h0
    obtain ⟨p0, dx, vs0, _, rfl, hp, _, _, rfl, _⟩ := r
    refine ⟨.ref p0, e1, p0, dx, _, rfl, hp, zip_no hno, ha C F H σs es σ _ ω _ hK hl h hk' fun a p vs F' H' hk2 hlv h' => ?_⟩
    obtain ⟨r, hm', hk2⟩ := bind_some hk2
    show spL X.K (insO c ns g none) sl SR m (.ref p0 :: vs ++ []) H' Q _
    rw [List.append_nil, ← hK]
    have h2 : ER C F' H' (vs.map some ++ (σs ++ σ)) (sl a ++ (es ++ e' p)) := h'
    refine ⟨H', F', t p, a, r, .ref p0, vs, rfl, hm', hlv, h2.enterL (i := es.length + i) hlv (sh a) (by rw [at_app _ rfl]; exact h1 p) (by rw [at_app _ hl]; exact e1), fun F2 H2 v h3 => ?_⟩
    obtain ⟨F3, h4⟩ := (h'.popN hlv).back h3
    exact q r p v F3 H2 hk2 h4)
theorem lx_methLO0 {w : Option V} {t0 : T} {m : T → Unit → Option R} {pl : Sem Bool} (i : Nat) (cl : Cls X.K c) (hm : Meth X.K c mn f) (Fn : FnOk X.prog X.w X.K X.mg X.base CX0 k f fd ps (spL X.K (insO c ns g none) (fun _ : Unit => []) SR m)) (hr : Room k X.A) (hb : Binds X.K fd ps [])
    (h0 : env[i]? = some (.st w T (insO c ns g none) t0)) (hno : mn ∉ ns := by decide +kernel) (hN : X.N[i]? = some vn := by rfl) (hv : Vis X.env.scope vn := by first | exact Or.inl rfl | exact Or.inr (Or.inl rfl) | exact Or.inr (Or.inr rfl)) (hd : (vn == ("__debug__" : Str)) = false := by decide) (hcd : (vn == ("__classdict__" : Str)) = false := by decide) (ht : eval (.Call (.Attribute (.Name vn vp) mn ap) [] [] pos) X.env = (do let ov ← eval (.Name vn vp) X.env; standAt ap.atName; let (f, first) ← holding [ov] (getMethod ov mn pl); callWith pos f first (backTo pos (starEach [] X.env)) (backToKw pos (keywordEach [] X.env))) := by rfl) :
    LX X env (.Call (.Attribute (.Name vn vp) mn ap) [] [] pos) SR (fun _ : Unit => env) (fun (k : R → Unit → Option Ω) => (m t0 ()).bind fun r => k r ()) :=
  fun C F H σs es σ k ω Q hK hl h hk' q => tE.of X (pe_meth0 (pe_var hN hv hd hcd) cl hm Fn hr hb .nil pass0 ht) (by
    obtain ⟨v0, fp, e1, r⟩ := h.lookF hl h0
    obtain ⟨p0, dx, vs0, _, rfl, hp, _, _, rfl, _⟩ := r
    refine ⟨.ref p0, e1, p0, dx, _, rfl, hp, zip_no hno, ?_⟩
    obtain ⟨r, hm', hk2⟩ := bind_some hk'
    show spL X.K (insO c ns g none) (fun _ : Unit => []) SR m [.ref p0] H Q E0
    rw [← hK]
    refine ⟨H, F, t0, (), r, .ref p0, [], rfl, hm', rfl, ER.enterL (σa := []) (ea := []) (σ := σs ++ σ) (env := es ++ env) (i := es.length + i) h rfl .nil (by rw [at_app _ rfl]; exact h0) (by rw [at_app _ hl]; exact e1), fun F2 H2 v h3 => ?_⟩
    obtain ⟨F3, h4⟩ := h.back h3
    exact q r () v F3 H2 hk2 h4)
/-- .. x lent itself -/
theorem lx_methKO {t0 : T} {m : T → A → Option R} {fa : (A → Pt → Option Ω) → Option Ω} {pl : Sem Bool} (i : Nat) (cl : Cls X.K c) (hm : Meth X.K c mn f) (Fn : FnOk X.prog X.w X.K X.mg X.base CX0 k f fd ps (spL X.K (insO c ns g none) sl SR m)) (hr : Room k X.A) (hb : Binds X.K fd ps []) (sh : ∀ a, ShE (sl a))
    (h0 : env[i]? = some (.lk T (insO c ns g none) t0)) (ha : LA X env (e :: xs) sl e' fa) (h1 : ∀ p, (e' p)[i]? = some (.lk T (insO c ns g none) t0)) (hno : mn ∉ ns := by decide +kernel) (hN : X.N[i]? = some vn := by rfl) (hv : Vis X.env.scope vn := by first | exact Or.inl rfl | exact Or.inr (Or.inl rfl) | exact Or.inr (Or.inr rfl)) (hd : (vn == ("__debug__" : Str)) = false := by decide) (hcd : (vn == ("__classdict__" : Str)) = false := by decide)
    (he : starEach (e :: xs) X.env = (false, eval e X.env) :: starEach xs X.env := by rfl) (hpl : (backTo pos (starEach xs X.env)).any (·.1) = false := by rfl) (ht : eval (.Call (.Attribute (.Name vn vp) mn ap) (e :: xs) [] pos) X.env = (do let ov ← eval (.Name vn vp) X.env; standAt ap.atName; let (f, first) ← holding [ov] (getMethod ov mn pl); callWith pos f first (backTo pos (starEach (e :: xs) X.env)) (backToKw pos (keywordEach [] X.env))) := by rfl) :
    LX X env (.Call (.Attribute (.Name vn vp) mn ap) (e :: xs) [] pos) SR e' (fun k => fa fun a p => (m t0 a).bind fun r => k r p) :=
  fun C F H σs es σ k ω Q hK hl h hk' q => tE.of X (pe_meth (pe_var hN hv hd hcd) cl hm Fn hr hb .nil pass0 (paC X) he hpl ht) (by
    obtain ⟨v0, fp, e1, r⟩ := h.lookKF hl h0
    obtain ⟨p0, dx, vs0, _, rfl, hp, _, _, rfl, _⟩ := r
    refine ⟨.ref p0, e1, p0, dx, _, rfl, hp, zip_no hno, ha C F H σs es σ _ ω _ hK hl h hk' fun a p vs F' H' hk2 hlv h' => ?_⟩
    obtain ⟨r, hm', hk2⟩ := bind_some hk2
    show spL X.K (insO c ns g none) sl SR m (.ref p0 :: vs ++ []) H' Q _
    rw [List.append_nil, ← hK]
    have h2 : ER C F' H' (vs.map some ++ (σs ++ σ)) (sl a ++ (es ++ e' p)) := h'
    refine ⟨H', F', t0, a, r, .ref p0, vs, rfl, hm', hlv, h2.enterLK (i := es.length + i) hlv (sh a) (by rw [at_app _ rfl]; exact h1 p) (by rw [at_app _ hl]; exact e1), fun F2 H2 v h3 => ?_⟩
    obtain ⟨F3, h4⟩ := (h'.popN hlv).back h3
    exact q r p v F3 H2 hk2 h4)
theorem lx_methKO0 {t0 : T} {m : T → Unit → Option R} {pl : Sem Bool} (i : Nat) (cl : Cls X.K c) (hm : Meth X.K c mn f) (Fn : FnOk X.prog X.w X.K X.mg X.base CX0 k f fd ps (spL X.K (insO c ns g none) (fun _ : Unit => []) SR m)) (hr : Room k X.A) (hb : Binds X.K fd ps [])
    (h0 : env[i]? = some (.lk T (insO c ns g none) t0)) (hno : mn ∉ ns := by decide +kernel) (hN : X.N[i]? = some vn := by rfl) (hv : Vis X.env.scope vn := by first | exact Or.inl rfl | exact Or.inr (Or.inl rfl) | exact Or.inr (Or.inr rfl)) (hd : (vn == ("__debug__" : Str)) = false := by decide) (hcd : (vn == ("__classdict__" : Str)) = false := by decide) (ht : eval (.Call (.Attribute (.Name vn vp) mn ap) [] [] pos) X.env = (do let ov ← eval (.Name vn vp) X.env; standAt ap.atName; let (f, first) ← holding [ov] (getMethod ov mn pl); callWith pos f first (backTo pos (starEach [] X.env)) (backToKw pos (keywordEach [] X.env))) := by rfl) :
    LX X env (.Call (.Attribute (.Name vn vp) mn ap) [] [] pos) SR (fun _ : Unit => env) (fun (k : R → Unit → Option Ω) => (m t0 ()).bind fun r => k r ()) :=
  fun C F H σs es σ k ω Q hK hl h hk' q => tE.of X (pe_meth0 (pe_var hN hv hd hcd) cl hm Fn hr hb .nil pass0 ht) (by
    obtain ⟨v0, fp, e1, r⟩ := h.lookKF hl h0
    obtain ⟨p0, dx, vs0, _, rfl, hp, _, _, rfl, _⟩ := r
    refine ⟨.ref p0, e1, p0, dx, _, rfl, hp, zip_no hno, ?_⟩
    obtain ⟨r, hm', hk2⟩ := bind_some hk'
    show spL X.K (insO c ns g none) (fun _ : Unit => []) SR m [.ref p0] H Q E0
    rw [← hK]
    refine ⟨H, F, t0, (), r, .ref p0, [], rfl, hm', rfl, ER.enterLK (σa := []) (ea := []) (σ := σs ++ σ) (env := es ++ env) (i := es.length + i) h rfl .nil (by rw [at_app _ rfl]; exact h0) (by rw [at_app _ hl]; exact e1), fun F2 H2 v h3 => ?_⟩
    obtain ⟨F3, h4⟩ := h.back h3
    exact q r () v F3 H2 hk2 h4)
end

section
variable {C : Ck} {F F' H H' : Hp} {σ σs : List (Option V)} {env es : Env} {τ τ' : Type} {S : Stor τ} {S' : Stor τ'} {x : τ} {x' : τ'} {i : Nat}
/-- some of what a slot owns is frozen -/
theorem ER.freezeP (h : ER C F H σ env) (e : env[i]? = some (.st none τ S x)) (fz : ∀ fp v, (∀ a ∈ fp, F a = none) → fp.Nodup → S.rel C.K F H fp v x → ∃ fq fp', (∀ a ∈ fq, a ∈ fp) ∧ (∀ a ∈ fp', a ∈ fp ∧ a ∉ fq) ∧ fp'.Nodup ∧ S'.rel C.K (Z.grow F H fq) H fp' v x') : ∃ F', Same F F' ∧ ER C F' H σ (env.set i (.st none τ' S' x')) := by
  obtain ⟨fp, q⟩ := h.sl
  obtain ⟨hi, _⟩ := List.getElem?_eq_some_iff.mp e
  obtain ⟨v, e1, r, k⟩ := q.ok i _ e
  have fn : ∀ a ∈ fp i, F a = none := fun a m => (q.own i hi a m).2.1
  obtain ⟨fq, fp', s1, s2, nd', r'⟩ := fz (fp i) v fn (q.nd i hi) r
  have fnq : ∀ a ∈ fq, F a = none := fun a m => fn a (s1 a m)
  have sF : Same F (Z.grow F H fq) := same_grow fnq
  refine ⟨Z.grow F H fq, sF, h.sB, fun a o m => ?_, fun a m => ?_, h.up, by simp [h.len], fun j => if j = i then fp' else fp j, fun j s' ej => ?_, fun j hj a ha => ?_, fun j l hj hl a ha hb => ?_, fun j hj => ?_⟩
  · unfold Z.grow at m
    by_cases z : a ∈ fq
    · rw [if_pos z] at m; exact m
    · rw [if_neg z] at m; exact h.sF a o m
  · unfold Z.grow at m
    by_cases z : a ∈ fq
    · exact .inr (k a (s1 a z))
    · rw [if_neg z] at m; exact h.gr a m
  · by_cases z : j = i
    · subst z
      rw [List.getElem?_set_self hi] at ej
      cases ej
      simp only [if_pos]
      exact ⟨v, e1, r', fun a m => k a (s2 a m).1⟩
    · rw [List.getElem?_set_ne (fun y => z y.symm)] at ej
      simp only [if_neg z]
      exact (q.ok j s' ej).go sF (fun a m => rfl) fun a ha => rfl
  · have hj' : j < env.length := by simpa using hj
    by_cases z : j = i
    · simp only [if_pos z] at ha
      obtain ⟨m1, m2⟩ := s2 a ha
      obtain ⟨b, f, c⟩ := q.own i hi a m1
      refine ⟨b, ?_, c⟩
      unfold Z.grow
      rw [if_neg m2]; exact f
    · simp only [if_neg z] at ha
      obtain ⟨b, f, c⟩ := q.own j hj' a ha
      refine ⟨b, ?_, c⟩
      unfold Z.grow
      rw [if_neg (fun y => z (q.sep j i hj' hi a ha (s1 a y)))]; exact f
  · have hj' : j < env.length := by simpa using hj
    have hl' : l < env.length := by simpa using hl
    by_cases zj : j = i
    · by_cases zl : l = i
      · rw [zj, zl]
      · simp only [if_pos zj] at ha
        simp only [if_neg zl] at hb
        exact absurd (q.sep i l hi hl' a (s2 a ha).1 hb) (fun y => zl y.symm)
    · by_cases zl : l = i
      · simp only [if_neg zj] at ha
        simp only [if_pos zl] at hb
        exact absurd (q.sep j i hj' hi a ha (s2 a hb).1) zj
      · simp only [if_neg zj] at ha
        simp only [if_neg zl] at hb
        exact q.sep j l hj' hl' a ha hb
  · have hj' : j < env.length := by simpa using hj
    by_cases z : j = i
    · simp only [if_pos z]; exact nd'
    · simp only [if_neg z]; exact q.nd j hj'
end
/-- lists of one's own told as data -/
def FV.dat : FV → PyData
  | .sh d => d
  | .li ds => .list ds
  | .dk _ => .none
  | .dt _ => .none
def FV.lis : FV → Bool
  | .sh _ => true
  | .li _ => true
  | _ => false
theorem fv_frz {K : Fg} {F H : Hp} {fq : List Addr} (hq : ∀ a ∈ fq, F a = none) : ∀ {fps : List Addr} {vs : List V} {xs : List FV}, RelAll (FvR K F H) fps vs xs → (xs.all FV.lis = true) → (∀ a ∈ fps, a ∈ fq) → RepAll K (grow F H fq) vs (xs.map FV.dat)
  | _, _, _, .nil, _, _ => .nil
  | _, _, _, .cons (v := v) (x := x) a r, ha, hs => by
    rw [List.all_cons, Bool.and_eq_true] at ha
    refine .cons ?_ (fv_frz hq r ha.2 (fun b m => hs b (List.mem_append_right _ m)))
    cases x with
    | sh d => exact a.2.mono (same_grow hq)
    | li ds =>
      obtain ⟨q, ws, rfl, hH, rw, rfl⟩ := a
      refine .lst (xs := ws) ?_ (rw.mono (same_grow hq))
      unfold grow
      rw [if_pos (hs q (by simp))]; exact hH
    | dk _ => exact absurd ha.1 Bool.false_ne_true
    | dt _ => exact absurd ha.1 Bool.false_ne_true
section
variable {X : Cx} {Ω : Type} {env : Env} {nm fn : Str} {np ap sp pos cp : Pos} {τ τ' α P Pt R I J : Type} {E : Enc α} {c : Addr} {ns ns' : List Str} {f : τ → List FV} {g : τ → List PyData} {w : Option V} {e ie : Expr} {e' : P → Env} {SR : Stor R} {envR : I → Env} {kr : R → I → Option Ω} {bk ct : Lp Ω} {rest sts : List Stmt} {envJ : J → Env} {cnd : Expr}
/-- an instance's lists are shared from here on -/
theorem lb_frzO {x : τ} {k : (J → Option Ω) → Option Ω} (i : Nat) (h0 : env[i]? = some (.st none τ (insO c ns f none) x)) (hl : (f x).all FV.lis = true) (hg : g x = (f x).map FV.dat) (h : LB X SR envR kr bk ct (env.set i (.st none τ (insS c ns g) x)) sts envJ k) : LB X SR envR kr bk ct env sts envJ k :=
  fun C F H σs es σ kn ω D hK hl2 hr hk qn qb qc qr => by
    obtain ⟨F', sF, h'⟩ := hr.freezeP (i := es.length + i) (S' := insS c ns g) (x' := x) (by rw [at_app _ rfl]; exact h0) fun fp v hn nd r => by
      obtain ⟨p, dx, vs, fps, rfl, hp, hlv, ra, rfl, _⟩ := r
      have n1 := List.nodup_cons.1 nd
      exact ⟨fps, [p], fun a m => List.mem_cons_of_mem _ m, fun a m => by simp at m; subst m; exact ⟨by simp, n1.1⟩, by simp, p, dx, vs, rfl, hp, hlv, by
        rw [hg]
        exact fv_frz (fun a m => hn a (List.mem_cons_of_mem _ m)) ra hl (fun a m => m), rfl⟩
    rw [List.set_append_right _ _ (Nat.le_add_right _ _), Nat.add_sub_cancel_left] at h'
    exact h C F' H σs es σ kn ω D hK hl2 h' hk qn qb qc qr
/-- a while whose test changes slots -/
theorem lb_whileC {T : Type} {envT : T → Env} {eT : T → Pt → Env} {fc : T → (Bool → Pt → Option Ω) → Option Ω} {fb : T → Pt → (T → Option Ω) → (T → Option Ω) → (T → Option Ω) → Option Ω} {fr : T → (J → Option Ω) → Option Ω} (n : Nat) (t2 : T → Pt → T)
    (hp : PassesOwn (model X.prog X.w) X.A X.env X.xe) (t0 : T) (h0 : Sub env (envT t0)) (hc : ∀ t, LT X (envT t) cnd (eT t) (fc t)) (hx : ∀ t p, Sub (eT t p) (envT (t2 t p)))
    (hb : ∀ t p kc kb, LB X SR envR kr ⟨T, envT, kb⟩ ⟨T, envT, kc⟩ (eT t p) sts envT (fun kn => fb t p kn kc kb)) (hr : ∀ t, LB X SR envR kr bk ct (envT t) rest envJ (fr t)) :
    LB X SR envR kr bk ct env (.While cnd sts [] pos :: rest) envJ (fun kn => whileO n t0 fun t kc => fc t fun b p => if b = true then fb t p kc kc fun t' => fr t' kn else fr (t2 t p) kn) :=
  fun C F H σs es σ kn ω D hK hl h hk qn qb qc qr => tSs.of X (pss_cons (ps_while hp (ptC X) (pssC X)) (pssC X)) (by
    have out : ∀ t F2 H2 σ2, fr t kn = some ω → ER C F2 H2 (σs ++ σ2) (es ++ envT t) → tSs X rest D σ2 H2 := fun t F2 H2 σ2 hk2 h2 =>
      hr t C F2 H2 σs es σ2 kn ω D hK hl h2 hk2 qn qb qc qr
    refine ⟨fun m σ2 H2 => ∃ t F2, ER C F2 H2 (σs ++ σ2) (es ++ envT t) ∧ whileO m t (fun t kc => fc t fun b p => if b = true then fb t p kc kc fun t' => fr t' kn else fr (t2 t p) kn) = some ω, ⟨n, t0, F, h.subF h0, hk⟩, ?_⟩
    rintro m σ2 H2 ⟨t, F2, h2, hk2⟩
    cases m with
    | zero => cases hk2
    | succ m =>
      refine hc t C F2 H2 σs es σ2 _ ω _ hK hl h2 hk2 fun b p F3 H3 hk3 h3 => ?_
      cases b with
      | true =>
        rw [if_pos rfl] at hk3 ⊢
        refine ⟨fun σ4 H4 => ∃ t F4, ER C F4 H4 (σs ++ σ4) (es ++ envT t) ∧ whileO m t (fun t kc => fc t fun b p => if b = true then fb t p kc kc fun t' => fr t' kn else fr (t2 t p) kn) = some ω, fun σ4 H4 ⟨t4, F4, h4, hk4⟩ => ⟨m, Nat.lt_succ_self m, t4, F4, h4, hk4⟩, ?_⟩
        refine hb t p (fun s' => whileO m s' fun t kc => fc t fun b p => if b = true then fb t p kc kc fun t' => fr t' kn else fr (t2 t p) kn) (fun t' => fr t' kn) C F3 H3 σs es σ2 _ ω _ hK hl h3 hk3 ?_ ?_ ?_ ?_
        · intro t5 F5 H5 σ5 hk5 h5; exact ⟨t5, F5, h5, hk5⟩
        · intro t5 F5 H5 σ5 hk5 h5; exact out t5 F5 H5 σ5 hk5 h5
        · intro t5 F5 H5 σ5 hk5 h5; exact ⟨t5, F5, h5, hk5⟩
        · intro a5 i5 v5 F5 H5 σ5 hk5 h5; exact qr a5 i5 v5 F5 H5 σ5 hk5 h5
      | false =>
        rw [if_neg Bool.false_ne_true] at hk3 ⊢
        exact out _ F3 H3 σ2 hk3 (h3.subF (hx t p)))
end
section
variable {X : Cx} {Ω : Type} {env : Env} {nm fn : Str} {np ap sp pos cp fp_ : Pos} {τ α P P2 R I J : Type} {E : Enc α} {c : Addr} {ns : List Str} {f : τ → List FV} {w : Option V} {e ie : Expr} {e' : P → Env} {SR : Stor R} {envR : I → Env} {kr : R → I → Option Ω} {bk ct : Lp Ω} {rest : List Stmt} {envJ : J → Env}
/-- a list field is written to: what stands behind -/
theorem ER.fldL {C : Ck} {F H : Hp} {σ σs : List (Option V)} {env es : Env} {x x' : τ} {i j : Nat} {p : Addr} {q : Addr} {dx : Addr} {vs ws' : List V} {ds ds' : List PyData} (h : ER C F H (σs ++ σ) (es ++ env)) (hl : σs.length = es.length) (e : env[i]? = some (.st w τ (insO c ns f none) x)) (e1 : σ[i]? = some (some (.ref p))) (hp : H p = some (.ins c dx (ns.zip vs))) (hlv : vs.length = ns.length) (hu : vs[j]? = some (.ref q))
    (hx : (f x)[j]? = some (.li ds)) (hx' : f x' = (f x).set j (.li ds')) (hr : RepAll C.K F ws' ds') (inj : ∀ vs2 dx2, H p = some (.ins c dx2 (ns.zip vs2)) → vs2.length = ns.length → vs2 = vs) :
    ER C F (upd H q (.lst ws')) (σs ++ σ) (es ++ env.set i (.st w τ (insO c ns f none) x')) := by
  obtain ⟨v, fp, e2, r, nd, ow, fin⟩ := h.mut (i := es.length + i) (by rw [at_app _ rfl]; exact e)
  rw [at_app _ hl, e1] at e2
  cases e2
  obtain ⟨p2, dx2, vs2, fps, e3, hp2, hl2, ra, rfl, _⟩ := r
  cases e3
  obtain rfl := inj vs2 dx2 hp2 hl2
  obtain ⟨fp1, fq, fp2, u2, rfl, hu2, ru, put⟩ := ra.split hx
  rw [hu] at hu2; cases hu2
  obtain ⟨q2, ws2, e4, hq2, rw2, rfl⟩ := ru
  cases e4
  have n1 := List.nodup_cons.1 nd
  have nq1 : q ∉ fp1 ∧ q ∉ fp2 := by
    have := n1.2
    rw [List.nodup_append] at this
    obtain ⟨_, h2, h3⟩ := this
    exact ⟨fun m => h3 q m q (by simp) rfl, fun m => (List.nodup_cons.mp (by simpa using h2)).1 m⟩
  have npq : p ≠ q := fun z => n1.1 (by rw [z]; simp)
  have fin' := fin τ (insO c ns f none) x' (upd H q (.lst ws')) (p :: (fp1 ++ ([q] ++ fp2))) (fun a na _ => upd_ne fun z => na (by rw [z]; simp)) (fun a m => ?_) ⟨p, dx2, vs2, _, rfl, by rw [upd_ne npq]; exact hp2, hl2, by
    rw [hx']
    exact put (FvR C.K F (upd H q (.lst ws'))) [q] (.li ds') (fun fr w y s z => z.frame fun a m => upd_ne fun z => by
      rcases s a m with m | m
      · rw [z] at m; exact nq1.1 m
      · rw [z] at m; exact nq1.2 m) ⟨q, ws', rfl, upd_same, hr, rfl⟩, rfl, fun t et => by cases et⟩ nd (fun a m => ?_)
  · rw [List.set_append_right _ _ (Nat.le_add_right _ _), Nat.add_sub_cancel_left] at fin'
    exact fin'
  · by_cases z : a = q
    · subst z; rw [upd_same]; exact fun z => by cases z
    · rw [upd_ne z]; exact m
  · refine ⟨?_, .inl m⟩
    by_cases z : a = q
    · subst z; rw [upd_same]; exact fun z => by cases z
    · rw [upd_ne z]; exact (ow a m).2.2
theorem zip_inj : ∀ {ns : List Str} {vs ws : List V}, vs.length = ns.length → ws.length = ns.length → ns.zip vs = ns.zip ws → vs = ws
  | [], [], [], _, _, _ => rfl
  | n :: ns, v :: vs, w :: ws, h1, h2, e => by
    simp only [List.zip_cons_cons, List.cons.injEq, Prod.mk.injEq, true_and] at e
    rw [e.1, zip_inj (by simpa using h1) (by simpa using h2) e.2]
  | [], _ :: _, _, h, _, _ => by simp at h
  | [], [], _ :: _, _, h, _ => by simp at h
  | _ :: _, [], _, h, _, _ => by simp at h
  | _ :: _, _ :: _, [], _, h, _ => by simp at h
/-- x.f[i] = e -/
theorem lb_fldSet {fe : (α → P → Option Ω) → Option Ω} {fi : P → (Int → P2 → Option Ω) → Option Ω} {fr : P → α → P2 → Nat → (J → Option Ω) → Option Ω} {t : P → τ} {ys : P → List α} (i j : Nat) (u : α → P → Nat → τ) (cl : Cls X.K c) (na : NoAttr X.K c fn) (he : LX X env e (it E) e' fe) (h1 : ∀ p, (e' p)[i]? = some (.st w τ (insO c ns f none) (t p)))
    (hj : ns[j]? = some fn) (hy : ∀ p, (f (t p))[j]? = some (.li ((ys p).map E.enc))) (hi : ∀ p s, LX X ((e' p).set i (.st w τ (insO c ns f (some s)) (t p))) ie (it eI) (fun _ : P2 => (e' p).set i (.st w τ (insO c ns f (some s)) (t p))) (fi p)) (hu : ∀ y p n, f (u y p n) = (f (t p)).set j (.li (((ys p).set n y).map E.enc)))
    (hr : ∀ y p p2 n, LB X SR envR kr bk ct ((e' p).set i (.st w τ (insO c ns f none) (u y p n))) rest envJ (fr p y p2 n)) (nd : ns.Nodup := by decide +kernel)
    (hN : X.N[i]? = some nm := by rfl) (hv : Vis X.env.scope nm := by first | exact Or.inl rfl | exact Or.inr (Or.inl rfl) | exact Or.inr (Or.inr rfl)) (hd : (nm == ("__debug__" : Str)) = false := by decide) (hcd : (nm == ("__classdict__" : Str)) = false := by decide)
    (hb : attributeBase (.Name nm np) fn X.env (eval (.Name nm np) X.env) = eval (.Name nm np) X.env := by rfl)
    (ha : ∀ v, assign (.Subscript (.Attribute (.Name nm np) fn ap) ie sp) X.env v = (do
      let ov ← holding [v] (eval (.Attribute (.Name nm np) fn ap) X.env)
      let iv ← holding [v, ov] (eval ie X.env)
      standAt sp
      holding [v, ov, iv] (setItem ov iv v)
      release [v, ov, iv] []) := by intro _; rfl)
    (hs : swapsWithSole [.Subscript (.Attribute (.Name nm np) fn ap) ie sp] e pos.line X.env = pure false := by rfl) (hw : swappedStores [.Subscript (.Attribute (.Name nm np) fn ap) ie sp] e X.env = pure none := by rfl) (ha1 : (assignEach [.Subscript (.Attribute (.Name nm np) fn ap) ie sp] X.env).map (·.2) = [assign (.Subscript (.Attribute (.Name nm np) fn ap) ie sp) X.env] := by rfl) :
    LB X SR envR kr bk ct env (.Assign [.Subscript (.Attribute (.Name nm np) fn ap) ie sp] e pos :: rest) envJ (fun kn => fe fun y p => fi p fun a p2 => (ixN (ys p).length a).bind fun n => fr p y p2 n kn) :=
  fun C F H σs es σ kn ω D hK hl h hk qn qb qc qr => tSs.of X (pss_cons (ps_asg (peC X) (pg_sub (pe_fld (pe_var hN hv hd hcd) hb) (peC X) set_list ha) hs hw ha1) (pssC X)) (he C F H σs es σ _ ω _ hK hl h hk fun y p v F' H' hk' h' => by
    have hl' : (some v :: σs).length = (Slot.st none α (it E) y :: es).length := by simp [hl]
    obtain ⟨p0, dx, vs, fps, e1, hpp, hlv, r, hpn⟩ := ER.pinO (b := some w) (σs := some v :: σs) (es := .st none α (it E) y :: es) h' hl' (h1 p)
    obtain ⟨_, _, _, u0, _, hu0, ru0, _⟩ := r.split (hy p)
    obtain ⟨q, ws, rfl, hq, rw0, rfl⟩ := ru0
    refine ⟨.ref p0, e1, p0, c, dx, _, .ref q, rfl, hpp, cl, na, zip_look nd hj hu0, hi p _ C F' H' (some v :: σs) (.st none α (it E) y :: es) σ _ ω _ hK hl' hpn hk' fun a p2 z F2 H2 hk2 h2 => ?_⟩
    obtain ⟨n, hn, hk2⟩ := bind_some hk2
    have hz : z = .int a := by
      obtain ⟨v', fp, e1, r⟩ := h2.look (i := 0) rfl
      simp at e1; subst e1
      obtain ⟨_, r⟩ := r
      cases r; rfl
    subst hz
    have h3 : ER C F2 H2 ((some v :: σs) ++ σ) ((.st none α (it E) y :: es) ++ (e' p).set i (slotOf (some w) τ (insO c ns f (some (p0, .ins c dx (ns.zip vs)))) (t p))) := h2.pop
    obtain ⟨v2, fp2, e2, p3, dx3, vs3, fps3, rfl, hp3, hlv3, r3, rfl, pn⟩ := h3.lookB (b := some w) hl' (List.getElem?_set_self (lt_of_get (h1 p)))
    rw [e1] at e2; cases e2
    have po := (pn _ rfl).2
    rw [hp3] at po
    simp only [Option.some.injEq, HO.ins.injEq] at po
    obtain rfl := zip_inj hlv3 hlv po.2.2
    obtain ⟨_, _, _, u3, _, hu3, ru3, _⟩ := r3.split (hy p)
    rw [hu0] at hu3; cases hu3
    obtain ⟨q3, ws3, e3, hq3, rw3, rfl⟩ := ru3
    cases e3
    have h4 := ER.unpinO (b := some w) h3 hl' (h1 p)
    have hvr : Rep C.K F2 v (E.enc y) := by
      obtain ⟨v', fp, e1, r⟩ := h4.look (i := 0) rfl
      simp at e1; subst e1
      exact r.2
    have hlen := rw3.length
    rw [List.length_map] at hlen
    refine ⟨q, ws3, a, n, rfl, rfl, hq3, by rw [hlen]; exact hn, ?_⟩
    have h5 : ER C F2 H2 (σs ++ σ) (es ++ e' p) := ER.pop h4
    have := h5.fldL (ws' := ws3.set n v) (x' := u y p n) hl (h1 p) e1 hp3 hlv3 hu0 (hy p) (hu y p n) (by
      rw [List.map_set]; exact rw3.set hvr) fun vs2 dx2 e2 l2 => by
        rw [hp3] at e2
        simp only [Option.some.injEq, HO.ins.injEq] at e2
        exact zip_inj l2 hlv3 e2.2.2.symm
    exact hr y p p2 n C F2 _ σs es σ kn ω D hK hl this hk2 qn qb qc qr)
/-- x.f.append(e) -/
theorem lb_fldApp {x : τ} {fe : (α → P → Option Ω) → Option Ω} {fr : α → P → (J → Option Ω) → Option Ω} {ys : List α} (i j : Nat) (u : α → τ) (cl : Cls X.K c) (na : NoAttr X.K c fn) (h0 : env[i]? = some (.st w τ (insO c ns f none) x))
    (hj : ns[j]? = some fn) (hy : (f x)[j]? = some (.li (ys.map E.enc))) (he : ∀ s, LX X (env.set i (.st w τ (insO c ns f (some s)) x)) e (it E) (fun _ : P => env.set i (.st w τ (insO c ns f (some s)) x)) fe) (hu : ∀ y, f (u y) = (f x).set j (.li ((ys ++ [y]).map E.enc)))
    (hr : ∀ y p, LB X SR envR kr bk ct (env.set i (.st w τ (insO c ns f none) (u y))) rest envJ (fr y p)) (nd : ns.Nodup := by decide +kernel)
    (hN : X.N[i]? = some nm := by rfl) (hv : Vis X.env.scope nm := by first | exact Or.inl rfl | exact Or.inr (Or.inl rfl) | exact Or.inr (Or.inr rfl)) (hd : (nm == ("__debug__" : Str)) = false := by decide) (hcd : (nm == ("__classdict__" : Str)) = false := by decide)
    (hb : attributeBase (.Name nm np) fn X.env (eval (.Name nm np) X.env) = eval (.Name nm np) X.env := by rfl)
    (hbase : attributeBase (.Attribute (.Name nm np) fn fp_) "append" X.env (eval (.Attribute (.Name nm np) fn fp_) X.env) = eval (.Attribute (.Name nm np) fn fp_) X.env := by rfl)
    (hfew : ((backTo cp (starEach [e] X.env)).all (fun x => !x.1) && (backToKw cp (keywordEach [] X.env)).all (fun x => x.1.isSome) && decide ([e].length + ([] : List Keyword).length + (if ([] : List Keyword).isEmpty then 0 else 1) < 30)) = true := by rfl)
    (hline : (ap.endLine == cp.line) = true := by rfl) (hse : starEach [e] X.env = (false, eval e X.env) :: starEach [] X.env := by rfl) (hplain : (backTo cp (starEach [] X.env)).any (·.1) = false := by rfl)
    (hsw : swapsWith (.Call (.Attribute (.Attribute (.Name nm np) fn fp_) "append" ap) [e] [] cp) none pos.line X.env = pure false := by rfl) :
    LB X SR envR kr bk ct env (.Expr (.Call (.Attribute (.Attribute (.Name nm np) fn fp_) "append" ap) [e] [] cp) pos :: rest) envJ (fun kn => fe fun y p => ck (decide (ys.length < SZ)) (fr y p kn)) :=
  fun C F H σs es σ kn ω D hK hl h hk qn qb qc qr => tSs.of X (pss_cons (ps_expr (pe_bm PySem.F.plainAttrs_list PySem.F.slot_list_append PySem.F.type_list_append mt_append (pe_fld (pe_var hN hv hd hcd) hb) (pa_cons (peC X) pa_nil hse) hbase hfew hline hse hplain) hsw) (pssC X)) (by
    obtain ⟨p0, dx, vs, fps, e1, hpp, hlv, r, hpn⟩ := ER.pinO (b := some w) h hl h0
    obtain ⟨_, _, _, u0, _, hu0, ru0, _⟩ := r.split hy
    obtain ⟨q, ws, rfl, hq, rw0, rfl⟩ := ru0
    refine ⟨.ref p0, e1, p0, c, dx, _, .ref q, rfl, hpp, cl, na, zip_look nd hj hu0, .inl ⟨rfl, ws, SqL.of hq⟩, he _ C F H σs es σ _ ω _ hK hl hpn hk fun y p v F2 H2 hk2 h2 => ?_⟩
    obtain ⟨hc, hk2⟩ := ck_some hk2
    have hc' := of_decide_eq_true hc
    have hvr : Rep C.K F2 v (E.enc y) := by
      obtain ⟨v', fp, e1, r⟩ := h2.look (i := 0) rfl
      simp at e1; subst e1
      exact r.2
    have h3 : ER C F2 H2 (σs ++ σ) (es ++ env.set i (slotOf (some w) τ (insO c ns f (some (p0, .ins c dx (ns.zip vs)))) x)) := h2.pop
    obtain ⟨v2, fp2, e2, p3, dx3, vs3, fps3, rfl, hp3, hlv3, r3, rfl, pn⟩ := h3.lookB (b := some w) hl (List.getElem?_set_self (lt_of_get h0))
    rw [e1] at e2; cases e2
    have po := (pn _ rfl).2
    rw [hp3] at po
    simp only [Option.some.injEq, HO.ins.injEq] at po
    obtain rfl := zip_inj hlv3 hlv po.2.2
    obtain ⟨_, _, _, u3, _, hu3, ru3, _⟩ := r3.split hy
    rw [hu0] at hu3; cases hu3
    obtain ⟨q3, ws3, e3, hq3, rw3, rfl⟩ := ru3
    cases e3
    have h4 := ER.unpinO (b := some w) h3 hl h0
    have hlen := rw3.length
    rw [List.length_map] at hlen
    refine ⟨q, ws3, v, rfl, rfl, hq3, by rw [SZ_eq]; omega, ?_⟩
    have := h4.fldL (ws' := ws3 ++ [v]) (x' := u y) hl h0 e1 hp3 hlv3 hu0 hy (hu y) (by
      rw [List.map_append]; exact rw3.app (.cons hvr .nil)) fun vs2 dx2 e2 l2 => by
        rw [hp3] at e2
        simp only [Option.some.injEq, HO.ins.injEq] at e2
        exact zip_inj l2 hlv3 e2.2.2.symm
    exact hr y p C F2 _ σs es σ kn ω D hK hl this hk2 qn qb qc qr)
end
end Z

set_option Elab.async false
set_option linter.all false
set_option maxRecDepth 100000
namespace Z
open PySem PySem.Spec PyProof.Rows L2
/-! ### min(xs, default=d) of a list that is not empty -/
section
variable {prog : Program} {w : World} {A : Around} {R : Result → Shared → Prop} {I : Addr} {fp wr : List Addr} {n : Nat} {P : Nat → Value → Prop} {St : Nat → Heap → Prop} {kw : List (Str × Value)}
theorem args_minD (a d : Value) : argsOk "min" ⟨[a], [("default", d)]⟩ := by unfold argsOk; kernel_rfl
theorem minD_loop (W : Walks prog w A.in1 I fp wr n P St) (bt : Nat → Nat → Bool) (hcmp : CmpOf prog w A.in1 .Lt P bt) (S : Addr) (hSf : S ∉ fp) :
    ∀ (k j : Nat) (s : Shared) (vb : Value) (c : Nat), n - (j + 1) = k → j + 1 ≤ n → St (j + 1) s.heap → P (argBest bt j) vb →
    s.heap.get? S = some { cls := .type "list", dict := none, data := .seq #[vb, vb] c, slots := #[] } →
    (∀ v h' tk, P (argBest bt (n - 1)) v → (∀ b o, b ∉ wr → b ≠ S → s.heap.get? b = some o → h'.get? b = some o) → R (.ok (.ret v)) { s with heap := h', toks := tk }) →
    codeAny (model prog w) A (.builtin "min.loop" ⟨[.ref I, .none, .ref S], kw⟩) R s := by
  have hSw : S ∉ wr := fun h => hSf (W.sub _ h)
  have hname : (toString "min" ++ toString ".loop" : String) = "min.loop" := by decide
  intro k
  induction k with
  | zero =>
    intro j s vb c hk hj hst hPb hS hR
    have hin : j + 1 = n := by omega
    refine codeAny_builtin F.entry_min_loop ?_
    rw [Around.under_plainId F.plain_min_loop _]
    show wpAny _ A.in1 (seqItems? (.ref S) >>= _) _ _ s
    refine wpAny_bind (wpAny_seqItems hS rfl ?_)
    show wpAny _ A.in1 (tryCatch (pyNext (.ref I)) _ >>= _) _ _ s
    refine wpAny_bind (wpAny_tryCatch (W.done s _ _ (hin ▸ hst) fun h' tk hk' => ?_))
    have hS' := hk' S _ hSw hS
    show wpAny _ A.in1 (updateSeq S (fun _ => #[]) >>= _) _ _ _
    refine wpAny_bind ?_
    refine wpAny_updateSeq hS' rfl (wpAny_bind (wpAny_letGo (wpAny_pure ?_)))
    exact hR vb _ tk (by rw [← hin]; exact hPb) fun b o hbw hbS e => (Heap.get?_update_other _ _ (Ne.symm hbS)).trans (hk' b o hbw e)
  | succ k ih =>
    intro j s vb c hk hj hst hPb hS hR
    have hlt : j + 1 < n := by omega
    refine codeAny_builtin F.entry_min_loop ?_
    rw [Around.under_plainId F.plain_min_loop _]
    show wpAny _ A.in1 (seqItems? (.ref S) >>= _) _ _ s
    refine wpAny_bind (wpAny_seqItems hS rfl ?_)
    show wpAny _ A.in1 (tryCatch (pyNext (.ref I)) _ >>= _) _ _ s
    refine wpAny_bind (wpAny_tryCatch (W.item (j + 1) s _ _ hlt hst fun v h' tk hP hst' hk' => ?_))
    have hS' := hk' S _ hSw hS
    show wpAny _ A.in1 (tryCatch (holding [v, v] (richCompare .Lt v vb >>= _)) _ >>= _) _ _ _
    refine wpAny_bind (wpAny_tryCatch (wpAny_holding (wpAny_bind (hcmp (j + 1) (argBest bt j) v vb _ _ _ hP hPb ?_))))
    refine wpAny_bind (wpAny_holding (wpAny_truthy_bool ?_))
    refine wpAny_bind (wpAny_letGo (wpAny_pure ?_))
    cases hb : bt (j + 1) (argBest bt j) with
    | true =>
      simp only [if_true]
      refine wpAny_bind ?_
      refine wpAny_updateSeq hS' rfl (wpAny_bind (wpAny_letGo ?_))
      rw [hname]
      refine wpAny_pure ⟨plainId_quiet F.plain_min_loop _, ih (j + 1) _ v _ (by omega) hlt (W.frame _ _ _ hst' fun b hbf o e => ?_) (by simp only [argBest, hb, if_true]; exact hP) (Heap.get?_update_self _ hS' rfl)
        fun v' h'' tk'' hP' hk'' => ?_⟩
      · exact (Heap.get?_update_other _ _ (fun h : S = b => hSf (by rw [h]; exact hbf))).trans e
      · exact hR v' h'' tk'' hP' fun b o hbw hbS e => hk'' b o hbw hbS ((Heap.get?_update_other _ _ (Ne.symm hbS)).trans (hk' b o hbw e))
    | false =>
      simp only [Bool.false_eq_true, if_false]
      refine wpAny_bind (wpAny_letGo ?_)
      rw [hname]
      refine wpAny_pure ⟨plainId_quiet F.plain_min_loop _, ih (j + 1) _ vb c (by omega) hlt hst' (by simp only [argBest, hb, Bool.false_eq_true, if_false]; exact hPb) hS' fun v' h'' tk'' hP' hk'' => ?_⟩
      exact hR v' h'' tk'' hP' fun b o hbw hbS e => hk'' b o hbw hbS (hk' b o hbw e)
theorem minD_first (W : Walks prog w A.in1 I fp wr n P St) (bt : Nat → Nat → Bool) (hcmp : CmpOf prog w A.in1 .Lt P bt) (S : Addr) (hSf : S ∉ fp) (hn : 0 < n) {s : Shared} {c : Nat} (hst : St 0 s.heap)
    (hS : s.heap.get? S = some { cls := .type "list", dict := none, data := .seq #[] c, slots := #[] })
    (hR : ∀ v h' tk, P (argBest bt (n - 1)) v → (∀ b o, b ∉ wr → b ≠ S → s.heap.get? b = some o → h'.get? b = some o) → R (.ok (.ret v)) { s with heap := h', toks := tk }) :
    codeAny (model prog w) A (.builtin "min.loop" ⟨[.ref I, .none, .ref S], kw⟩) R s := by
  have hSw : S ∉ wr := fun h => hSf (W.sub _ h)
  have hname : (toString "min" ++ toString ".loop" : String) = "min.loop" := by decide
  refine codeAny_builtin F.entry_min_loop ?_
  rw [Around.under_plainId F.plain_min_loop _]
  show wpAny _ A.in1 (seqItems? (.ref S) >>= _) _ _ s
  refine wpAny_bind (wpAny_seqItems hS rfl ?_)
  show wpAny _ A.in1 (tryCatch (pyNext (.ref I)) _ >>= _) _ _ s
  refine wpAny_bind (wpAny_tryCatch (W.item 0 s _ _ hn hst fun v h' tk hP hst' hk' => ?_))
  have hS' := hk' S _ hSw hS
  show wpAny _ A.in1 (updateSeq S (fun _ => #[v, v]) >>= _) _ _ _
  refine wpAny_bind ?_
  refine wpAny_updateSeq hS' rfl ?_
  rw [hname]
  refine wpAny_pure ⟨plainId_quiet F.plain_min_loop _, minD_loop W bt hcmp S hSf _ 0 _ v _ rfl hn (W.frame _ _ _ hst' fun b hbf o e => ?_) hP (Heap.get?_update_self _ hS' rfl) fun v' h'' tk'' hP' hk'' => ?_⟩
  · exact (Heap.get?_update_other _ _ (fun h : S = b => hSf (by rw [h]; exact hbf))).trans e
  · exact hR v' h'' tk'' hP' fun b o hbw hbS e => hk'' b o hbw hbS ((Heap.get?_update_other _ _ (Ne.symm hbS)).trans (hk' b o hbw e))
end
section
variable {prog : Program} {w : World} {A : Around} {E : Value → Shared → Prop} {s : Shared}
theorem call_treeK {id : String} {b : Builtin} {args : List Value} {kw : List (Str × Value)} {Q : Value → Shared → Prop} (hk : builtinKind id = none) (hp : plainId id = true) (hb : entryFor table id = some b) (ha : argsOk id ⟨args, kw⟩)
    (hc : wpAny (model prog w) A.in1 (b ⟨args, kw⟩) (fun fin s' => match fin with
      | .done f => (match (Except.ok f : Result) with | .ok (.ret v) => Q v s' | .ok _ => False | .error e => E e s')
      | .again c' => c'.quiet = true ∧ codeAny (model prog w) A c' (fun r s' => match r with | .ok (.ret v) => Q v s' | .ok _ => False | .error e => E e s') s') E s) :
    wpAny (model prog w) A (call (.builtin id) args kw) Q E s := by
  refine wpAny_call (codeAny_call_builtin hp hb ?_)
  simp only [checkBuiltinCall, hk]
  cases hsig : Manifest.signature? id with
  | none => exact wpAny_pure hc
  | some sig =>
    simp only [argsOk, hsig] at ha
    have h2 : Bind.checkArgs id sig ⟨args, kw⟩ = pure () := ha
    show wpAny _ A.in1 (Bind.checkArgs id sig ⟨args, kw⟩) _ _ s
    rw [h2]; exact wpAny_pure hc
theorem bind_minD (d : Value) : Builtin.Builtins.bindParams "min" ["key", "default"] 0 ⟨[], [("default", d)]⟩ = pure [none, some d] := by
  unfold Builtin.Builtins.bindParams
  simp [List.zipIdx]
  rfl
theorem minD_walk {x d : Value} {Q : Value → Shared → Prop}
    (h : wpAny (model prog w) A.in1 (pyIter x) (fun it s₂ => ∃ I fp wr n P St bt, it = .ref I ∧ Walks prog w A.in1 I fp wr n P St ∧ St 0 s₂.heap ∧ (∀ b ∈ fp, b < s₂.heap.objs.size) ∧ 0 < n ∧ CmpOf prog w A.in1 .Lt P bt ∧
      ∀ v h' tk, P (argBest bt (n - 1)) v → (∀ b o, b ∉ wr → s₂.heap.get? b = some o → h'.get? b = some o) → Q v { s₂ with heap := h', toks := tk }) E s) :
    wpAny (model prog w) A (call (.builtin "min") [x] [("default", d)]) Q E s := by
  have hname : (toString "min" ++ toString ".loop" : String) = "min.loop" := by decide
  refine call_treeK F.kind_min F.plain_min F.entry_min (args_minD x d) ?_
  show wpAny _ A.in1 (Builtin.Builtins.bindParams "min" ["key", "default"] 0 ⟨[], [("default", d)]⟩ >>= _) _ _ s
  refine wpAny_bind (wpAny_of_eq (bind_minD d) ?_)
  refine wpAny_bind (wpAny_pure ?_)
  refine wpAny_bind (wpAny_mono h (fun it s₂ h₂ => ?_) fun _ _ e => e)
  obtain ⟨I, fp, wr, n, P, St, bt, rfl, W, hst, hfp, hn, hcmp, hQ⟩ := h₂
  refine wpAny_bind (wpAny_newObj_type ?_)
  have hSf : s₂.heap.objs.size ∉ fp := fun hm => Nat.lt_irrefl _ (hfp _ hm)
  rw [hname]
  refine wpAny_pure ⟨plainId_quiet F.plain_min_loop _, minD_first W bt hcmp s₂.heap.objs.size hSf hn (W.frame _ _ _ hst fun b _ o e => Heap.get?_push_of_some _ e) (Heap.get?_push_size _ rfl) fun v h' tk hP hk => ?_⟩
  exact hQ v h' tk hP fun b o hbw e => hk b o hbw (Nat.ne_of_lt (Heap.lt_size e)) (Heap.get?_push_of_some _ e)
theorem minD_ints {l : Addr} {its : List Value} {ns : List Int} {d : Value} {Q : Value → Shared → Prop} (hh : A.handled = none) (hl : s.heap.IsList l its.toArray) (hi : IntsAre its ns) (hne : 0 < ns.length)
    (h : ∀ h' tk M t', (∀ b o, s.heap.get? b = some o → h'.get? b = some o) → M ∈ ns → (∀ a, a ∈ ns → M ≤ a) → Q (.int M t') { s with heap := h', toks := tk }) : wpAny (model prog w) A (call (.builtin "min") [.ref l] [("default", d)]) Q E s := by
  obtain ⟨xs, e⟩ := hi.allInts.items
  have hn : numsOf (intItems xs).toList = ns := by rw [← e]; exact hi.numsOf
  rw [nums_intItems] at hn
  subst hn
  rw [e] at hl
  have hsz : 0 < xs.size := by simpa using hne
  refine minD_walk (iter_intList hl fun s₂ e st hfp hlI => ?_)
  subst e
  refine ⟨_, _, _, _, _, _, _, rfl, Walks.list (A := A.in1) hh _ l hlI (intItems xs), st, hfp, by simpa [intItems] using hsz, CmpOf.ints_lt (numAt xs) (fun _ _ => intItems_at), fun v h' tk hP hk => ?_⟩
  obtain ⟨t, rfl⟩ := intItems_at (by simpa [intItems] using hP)
  obtain ⟨h1, h2⟩ := argBest_lt (numAt xs) (xs.size - 1)
  refine h h' tk _ t (old_kept hk) ?_ fun a ha => ?_
  · rw [numAt_eq]; exact PySem.getD_mem (by rw [List.length_map, Array.length_toList]; omega)
  · obtain ⟨j, hj, rfl⟩ := mem_getD ha
    rw [List.length_map, Array.length_toList] at hj
    rw [← numAt_eq]; exact h2 j (by omega)
end
def rMinDf (K : PySem.W.Frag) : List V → List V → Hp → VK → Prop := fun vs zs H Q => ∃ (a : Addr) (ns : List Int) (d : V), vs = [V.ref a] ∧ zs = [d] ∧ SqL K H a (ns.map V.int) ∧ 0 < ns.length ∧ ∀ m, m ∈ ns → (∀ y, y ∈ ns → m ≤ y) → Q (.int m) H
theorem cr_minDf {X : Cx} (hc : X.calm = true) : CallRK X (.builtin "min") [Str.ofString "default"] (rMinDf X.K) := by
  intro pins s σ H vs zs us ws Q I r rz h
  obtain ⟨a, ns, d, rfl, rfl, hs, hne, q⟩ := h
  obtain ⟨its, rv, hl, _⟩ := I.list hs
  obtain rfl := Vals.ref1 r
  obtain ⟨w1, rfl, e1⟩ := vals1 rz
  exact minD_ints (I.ok.hd hc) hl.isList rv.ints hne fun h' tk m t' hk h1 h2 => ⟨.int _, H, I.kept hk, ⟨_, rfl⟩, q m h1 h2⟩
section
variable {X : Cx} {Ω : Type} {env : Env} {np pos kpos dp : Pos} {dk : Nat} {a : Expr} {G : Env → Prop} {τ P : Type} {S : Stor τ} {e' : P → Env} {f : (τ → P → Option Ω) → Option Ω} {d : Int}
/-- min(xs, default=d); xs is not empty -/
theorem lx_minDf {g : τ → List Int} (hc : X.calm = true) (hv : LVw S (it eI) g) (hm : X.mg "min" = none) (ha : LO X G env a S e' f) (hG : ∀ p, G (e' p)) (hg : Gl X "min" := by rfl)
    (he : backTo pos (starEach [a] X.env) = (false, eval a X.env) :: backTo pos (starEach [] X.env) := by rfl) (hse : starEach [a] X.env = (false, eval a X.env) :: starEach [] X.env := by rfl) (hpl : (backTo pos (starEach [a] X.env)).any (·.1) = false := by rfl)
    (hall : (backToKw pos (keywordEach [⟨some "default", .Constant (.int d) dk dp, kpos⟩] X.env)).all (·.1.isSome) = true := by rfl) (hnone : (backToKw pos (keywordEach [⟨some "default", .Constant (.int d) dk dp, kpos⟩] X.env)).any (·.1.isNone) = false := by rfl) (hks : (backToKw pos (keywordEach [⟨some "default", .Constant (.int d) dk dp, kpos⟩] X.env)).filterMap (·.1) = [Str.ofString "default"] := by rfl) :
    LX X env (.Call (.Name "min" np) [a] [⟨some "default", .Constant (.int d) dk dp, kpos⟩] pos) (it eI) e' (fun k => f fun x p => (minI (g x)).bind fun y => k y p) :=
  fun C F H σs es σ k ω Q hK hl h hk q => tE.of X (pe_callBK (cr_minDf hc) hg hm boot_min (pa_cons (peC X) pa_nil hse) (pk_cons pe_int pk_nil) (by decide) (by decide) he hpl hall hnone hks) (lo_run ha hG hK hl h hk fun x p v F' H' fp hk' h' rr => by
    obtain ⟨y, hy, hk'⟩ := bind_some hk'
    obtain ⟨p1, vs, fps, rfl, h1, h2⟩ := hv.view h'.sF rr
    have := h2.zero.2.ints
    subst this
    refine ⟨p1, g x, .int d, rfl, rfl, by rw [← hK]; exact h1, ?_, fun m hmm hle => ?_⟩
    · cases hgx : g x with
      | nil => rw [hgx] at hy; cases hy
      | cons z zs => simp
    · rw [minI_is hy hmm hle]; exact q y p (.int y) F' H' hk' (h'.pushSh (.int _)))
end
end Z

set_option Elab.async false
set_option linter.all false
set_option maxRecDepth 100000
namespace Z
open PySem PySem.Spec PyProof.Rows L2
/-! ### min(xs, default=d) of any list -/
section
variable {prog : Program} {w : World} {A : Around} {R : Result → Shared → Prop} {I : Addr} {fp wr : List Addr} {P : Nat → Value → Prop} {St : Nat → Heap → Prop} {d : Value}
theorem minD_none (W : Walks prog w A.in1 I fp wr 0 P St) (S : Addr) {s : Shared} {c : Nat} (hst : St 0 s.heap)
    (hS : s.heap.get? S = some { cls := .type "list", dict := none, data := .seq #[] c, slots := #[] })
    (hR : ∀ h' tk, (∀ b o, b ∉ wr → s.heap.get? b = some o → h'.get? b = some o) → R (.ok (.ret d)) { s with heap := h', toks := tk }) :
    codeAny (model prog w) A (.builtin "min.loop" ⟨[.ref I, .none, .ref S], [("default", d)]⟩) R s := by
  refine codeAny_builtin F.entry_min_loop ?_
  rw [Around.under_plainId F.plain_min_loop _]
  show wpAny _ A.in1 (seqItems? (.ref S) >>= _) _ _ s
  refine wpAny_bind (wpAny_seqItems hS rfl ?_)
  show wpAny _ A.in1 (tryCatch (pyNext (.ref I)) _ >>= _) _ _ s
  refine wpAny_bind (wpAny_tryCatch (W.done s _ _ hst fun h' tk hk' => ?_))
  show wpAny _ A.in1 (rule _ >>= _) _ _ _
  refine wpAny_bind (wpAny_rule (wpAny_pure ?_))
  exact hR h' tk hk'
end
section
variable {prog : Program} {w : World} {A : Around} {E : Value → Shared → Prop} {s : Shared}
theorem minD_walk0 {x d : Value} {Q : Value → Shared → Prop}
    (h : wpAny (model prog w) A.in1 (pyIter x) (fun it s₂ => ∃ I fp wr P St, it = .ref I ∧ Walks prog w A.in1 I fp wr 0 P St ∧ St 0 s₂.heap ∧ (∀ b ∈ fp, b < s₂.heap.objs.size) ∧
      ∀ h' tk, (∀ b o, b ∉ wr → s₂.heap.get? b = some o → h'.get? b = some o) → Q d { s₂ with heap := h', toks := tk }) E s) :
    wpAny (model prog w) A (call (.builtin "min") [x] [("default", d)]) Q E s := by
  have hname : (toString "min" ++ toString ".loop" : String) = "min.loop" := by decide
  refine call_treeK F.kind_min F.plain_min F.entry_min (args_minD x d) ?_
  show wpAny _ A.in1 (Builtin.Builtins.bindParams "min" ["key", "default"] 0 ⟨[], [("default", d)]⟩ >>= _) _ _ s
  refine wpAny_bind (wpAny_of_eq (bind_minD d) ?_)
  refine wpAny_bind (wpAny_pure ?_)
  refine wpAny_bind (wpAny_mono h (fun it s₂ h₂ => ?_) fun _ _ e => e)
  obtain ⟨I, fp, wr, P, St, rfl, W, hst, hfp, hQ⟩ := h₂
  refine wpAny_bind (wpAny_newObj_type ?_)
  rw [hname]
  refine wpAny_pure ⟨plainId_quiet F.plain_min_loop _, minD_none W s₂.heap.objs.size (W.frame _ _ _ hst fun b _ o e => Heap.get?_push_of_some _ e) (Heap.get?_push_size _ rfl) fun h' tk hk => ?_⟩
  exact hQ h' tk fun b o hbw e => hk b o hbw (Heap.get?_push_of_some _ e)
theorem minD_nil {l : Addr} {its : List Value} {d : Value} {Q : Value → Shared → Prop} (hh : A.handled = none) (hl : s.heap.IsList l its.toArray) (hi : IntsAre its [])
    (h : ∀ h' tk, (∀ b o, s.heap.get? b = some o → h'.get? b = some o) → Q d { s with heap := h', toks := tk }) : wpAny (model prog w) A (call (.builtin "min") [.ref l] [("default", d)]) Q E s := by
  obtain ⟨xs, e⟩ := hi.allInts.items
  have hn : numsOf (intItems xs).toList = [] := by rw [← e]; exact hi.numsOf
  rw [nums_intItems] at hn
  have hx : xs = #[] := by
    have : xs.toList = [] := by simpa using hn
    exact Array.toList_eq_nil_iff.1 this
  rw [e] at hl
  subst hx
  refine minD_walk0 (iter_intList hl fun s₂ e st hfp hlI => ?_)
  subst e
  have W := Walks.list (prog := prog) (w := w) (A := A.in1) hh _ l hlI (intItems #[])
  have e0 : (intItems #[]).size = 0 := by simp [intItems]
  rw [e0] at W
  refine ⟨_, _, _, _, _, rfl, W, st, hfp, fun h' tk hk => h h' tk (old_kept hk)⟩
end
def minDf (d : Int) (xs : List Int) : Int := (minI xs).getD d
def rMinDg (K : PySem.W.Frag) : List V → List V → Hp → VK → Prop := fun vs zs H Q => ∃ (a : Addr) (ns : List Int) (d : Int), vs = [V.ref a] ∧ zs = [V.int d] ∧ SqL K H a (ns.map V.int) ∧ Q (.int (minDf d ns)) H
theorem cr_minDg {X : Cx} (hc : X.calm = true) : CallRK X (.builtin "min") [Str.ofString "default"] (rMinDg X.K) := by
  intro pins s σ H vs zs us ws Q I r rz h
  obtain ⟨a, ns, d, rfl, rfl, hs, q⟩ := h
  obtain ⟨its, rv, hl, _⟩ := I.list hs
  obtain rfl := Vals.ref1 r
  obtain ⟨w1, rfl, e1⟩ := vals1 rz
  cases ns with
  | nil => exact minD_nil (I.ok.hd hc) hl.isList rv.ints fun h' tk hk => ⟨.int d, H, I.kept hk, e1, q⟩
  | cons n ns =>
    obtain ⟨v, ev, mv, uv⟩ := minI_some (l := n :: ns) (by simp)
    have e2 : minDf d (n :: ns) = v := by unfold minDf; rw [ev]; rfl
    rw [e2] at q
    refine minD_ints (I.ok.hd hc) hl.isList rv.ints (by simp) fun h' tk m t' hk h1 h2 => ⟨.int v, H, I.kept hk, ⟨t', ?_⟩, q⟩
    have := h2 v mv
    have := uv m h1
    rw [show m = v by omega]
section
variable {X : Cx} {Ω : Type} {env : Env} {np pos kpos dp : Pos} {dk : Nat} {a : Expr} {G : Env → Prop} {τ P : Type} {S : Stor τ} {e' : P → Env} {f : (τ → P → Option Ω) → Option Ω} {d : Int}
/-- min(xs, default=d) -/
theorem lx_minDg {g : τ → List Int} (hc : X.calm = true) (hv : LVw S (it eI) g) (hm : X.mg "min" = none) (ha : LO X G env a S e' f) (hG : ∀ p, G (e' p)) (hg : Gl X "min" := by rfl)
    (he : backTo pos (starEach [a] X.env) = (false, eval a X.env) :: backTo pos (starEach [] X.env) := by rfl) (hse : starEach [a] X.env = (false, eval a X.env) :: starEach [] X.env := by rfl) (hpl : (backTo pos (starEach [a] X.env)).any (·.1) = false := by rfl)
    (hall : (backToKw pos (keywordEach [⟨some "default", .Constant (.int d) dk dp, kpos⟩] X.env)).all (·.1.isSome) = true := by rfl) (hnone : (backToKw pos (keywordEach [⟨some "default", .Constant (.int d) dk dp, kpos⟩] X.env)).any (·.1.isNone) = false := by rfl) (hks : (backToKw pos (keywordEach [⟨some "default", .Constant (.int d) dk dp, kpos⟩] X.env)).filterMap (·.1) = [Str.ofString "default"] := by rfl) :
    LX X env (.Call (.Name "min" np) [a] [⟨some "default", .Constant (.int d) dk dp, kpos⟩] pos) (it eI) e' (fun k => f fun x p => k (minDf d (g x)) p) :=
  fun C F H σs es σ k ω Q hK hl h hk q => tE.of X (pe_callBK (cr_minDg hc) hg hm boot_min (pa_cons (peC X) pa_nil hse) (pk_cons pe_int pk_nil) (by decide) (by decide) he hpl hall hnone hks) (lo_run ha hG hK hl h hk fun x p v F' H' fp hk' h' rr => by
    obtain ⟨p1, vs, fps, rfl, h1, h2⟩ := hv.view h'.sF rr
    have := h2.zero.2.ints
    subst this
    exact ⟨p1, g x, d, rfl, rfl, by rw [← hK]; exact h1, q (minDf d (g x)) p (.int _) F' H' hk' (h'.pushSh (.int _))⟩)
end
end Z


namespace My
open PySem PySem.Spec PyProof.Rows L2 Z
def topS (i : Nat) : Stmt := PySem.Challenge.pw_cutwright_k81_whole_days.main.body.getD i (.Pass ⟨0, 0, 0, 0⟩)
abbrev s_Shop___init__ : Stmt := inClass (topS 1) 0
abbrev s_Shop_here : Stmt := inClass (topS 1) 1
abbrev s_Shop_step : Stmt := inClass (topS 1) 2
abbrev s_Shop_note : Stmt := inClass (topS 1) 3
abbrev s_worked : Stmt := topS 2
abbrev s_late_by : Stmt := topS 3
abbrev s_held_by : Stmt := topS 4
abbrev s_critical : Stmt := topS 5
abbrev s_days : Stmt := topS 6
abbrev s_pieces_fault : Stmt := topS 7
abbrev s_ends_of : Stmt := topS 8
abbrev s_days_fault : Stmt := topS 9
abbrev s__law_state : Stmt := topS 11
abbrev s__law_take : Stmt := topS 12
abbrev s__law_orders : Stmt := topS 13
abbrev s__law_pieces_fault : Stmt := topS 14
abbrev s__law_held : Stmt := topS 15
abbrev s__law_fault : Stmt := topS 16
abbrev s__law_worked : Stmt := topS 17
abbrev s_law : Stmt := topS 18
structure Fa (K : Fg) (mg : Str → Option Value) where
  f_Shop___init__ : Addr
  fd_Shop___init__ : FuncData
  F_Shop___init__ : Fun K "__init__" "Shop.__init__" s_Shop___init__ f_Shop___init__ fd_Shop___init__
  b_Shop___init__ : Binds K fd_Shop___init__ ["self", "orders"] []
  f_Shop_here : Addr
  fd_Shop_here : FuncData
  F_Shop_here : Fun K "here" "Shop.here" s_Shop_here f_Shop_here fd_Shop_here
  b_Shop_here : Binds K fd_Shop_here ["self"] []
  f_Shop_step : Addr
  fd_Shop_step : FuncData
  F_Shop_step : Fun K "step" "Shop.step" s_Shop_step f_Shop_step fd_Shop_step
  b_Shop_step : Binds K fd_Shop_step ["self"] []
  f_Shop_note : Addr
  fd_Shop_note : FuncData
  F_Shop_note : Fun K "note" "Shop.note" s_Shop_note f_Shop_note fd_Shop_note
  b_Shop_note : Binds K fd_Shop_note ["self", "at", "size"] []
  f_worked : Addr
  fd_worked : FuncData
  F_worked : Fun K "worked" "worked" s_worked f_worked fd_worked
  g_worked : mg "worked" = some (.ref f_worked)
  b_worked : Binds K fd_worked ["orders"] []
  f_late_by : Addr
  fd_late_by : FuncData
  F_late_by : Fun K "late_by" "late_by" s_late_by f_late_by fd_late_by
  g_late_by : mg "late_by" = some (.ref f_late_by)
  b_late_by : Binds K fd_late_by ["orders", "ends"] []
  f_held_by : Addr
  fd_held_by : FuncData
  F_held_by : Fun K "held_by" "held_by" s_held_by f_held_by fd_held_by
  g_held_by : mg "held_by" = some (.ref f_held_by)
  b_held_by : Binds K fd_held_by ["orders", "members"] []
  f_critical : Addr
  fd_critical : FuncData
  F_critical : Fun K "critical" "critical" s_critical f_critical fd_critical
  g_critical : mg "critical" = some (.ref f_critical)
  b_critical : Binds K fd_critical ["orders"] []
  f_days : Addr
  fd_days : FuncData
  F_days : Fun K "days" "days" s_days f_days fd_days
  g_days : mg "days" = some (.ref f_days)
  b_days : Binds K fd_days ["orders"] []
  f_pieces_fault : Addr
  fd_pieces_fault : FuncData
  F_pieces_fault : Fun K "pieces_fault" "pieces_fault" s_pieces_fault f_pieces_fault fd_pieces_fault
  g_pieces_fault : mg "pieces_fault" = some (.ref f_pieces_fault)
  b_pieces_fault : Binds K fd_pieces_fault ["orders", "pieces"] []
  f_ends_of : Addr
  fd_ends_of : FuncData
  F_ends_of : Fun K "ends_of" "ends_of" s_ends_of f_ends_of fd_ends_of
  g_ends_of : mg "ends_of" = some (.ref f_ends_of)
  b_ends_of : Binds K fd_ends_of ["orders", "pieces"] []
  f_days_fault : Addr
  fd_days_fault : FuncData
  F_days_fault : Fun K "days_fault" "days_fault" s_days_fault f_days_fault fd_days_fault
  g_days_fault : mg "days_fault" = some (.ref f_days_fault)
  b_days_fault : Binds K fd_days_fault ["orders", "told"] []
  f__law_state : Addr
  fd__law_state : FuncData
  F__law_state : Fun K "_law_state" "_law_state" s__law_state f__law_state fd__law_state
  g__law_state : mg "_law_state" = some (.ref f__law_state)
  b__law_state : Binds K fd__law_state ["script"] []
  f__law_take : Addr
  fd__law_take : FuncData
  F__law_take : Fun K "_law_take" "_law_take" s__law_take f__law_take fd__law_take
  g__law_take : mg "_law_take" = some (.ref f__law_take)
  b__law_take : Binds K fd__law_take ["state", "most"] []
  f__law_orders : Addr
  fd__law_orders : FuncData
  F__law_orders : Fun K "_law_orders" "_law_orders" s__law_orders f__law_orders fd__law_orders
  g__law_orders : mg "_law_orders" = some (.ref f__law_orders)
  b__law_orders : Binds K fd__law_orders ["state", "most"] []
  f__law_pieces_fault : Addr
  fd__law_pieces_fault : FuncData
  F__law_pieces_fault : Fun K "_law_pieces_fault" "_law_pieces_fault" s__law_pieces_fault f__law_pieces_fault fd__law_pieces_fault
  g__law_pieces_fault : mg "_law_pieces_fault" = some (.ref f__law_pieces_fault)
  b__law_pieces_fault : Binds K fd__law_pieces_fault ["orders", "pieces"] []
  f__law_held : Addr
  fd__law_held : FuncData
  F__law_held : Fun K "_law_held" "_law_held" s__law_held f__law_held fd__law_held
  g__law_held : mg "_law_held" = some (.ref f__law_held)
  b__law_held : Binds K fd__law_held ["orders", "members"] []
  f__law_fault : Addr
  fd__law_fault : FuncData
  F__law_fault : Fun K "_law_fault" "_law_fault" s__law_fault f__law_fault fd__law_fault
  g__law_fault : mg "_law_fault" = some (.ref f__law_fault)
  b__law_fault : Binds K fd__law_fault ["orders", "told"] []
  f__law_worked : Addr
  fd__law_worked : FuncData
  F__law_worked : Fun K "_law_worked" "_law_worked" s__law_worked f__law_worked fd__law_worked
  g__law_worked : mg "_law_worked" = some (.ref f__law_worked)
  b__law_worked : Binds K fd__law_worked ["orders", "keys"] []
  f_law : Addr
  fd_law : FuncData
  F_law : Fun K "law" "law" s_law f_law fd_law
  g_law : mg "law" = some (.ref f_law)
  b_law : Binds K fd_law ["script"] []
  c_Shop : Addr
  C_Shop : Cls K c_Shop
  g_Shop : mg "Shop" = some (.ref c_Shop)
  n_Shop_orders : NoAttr K c_Shop "orders"
  n_Shop_left : NoAttr K c_Shop "left"
  n_Shop_ends : NoAttr K c_Shop "ends"
  n_Shop_pieces : NoAttr K c_Shop "pieces"
  n_Shop_now : NoAttr K c_Shop "now"
  M_Shop : Mk K c_Shop f_Shop___init__
  m_Shop_here : Meth K c_Shop "here" f_Shop_here
  m_Shop_step : Meth K c_Shop "step" f_Shop_step
  m_Shop_note : Meth K c_Shop "note" f_Shop_note
  z_abs : mg "abs" = none
  z_all : mg "all" = none
  z_enumerate : mg "enumerate" = none
  z_int : mg "int" = none
  z_isinstance : mg "isinstance" = none
  z_len : mg "len" = none
  z_list : mg "list" = none
  z_max : mg "max" = none
  z_min : mg "min" = none
  z_range : mg "range" = none
  z_repr : mg "repr" = none
  z_set : mg "set" = none
  z_sorted : mg "sorted" = none
  z_sum : mg "sum" = none
  z_tuple : mg "tuple" = none

abbrev CT_Shop := ((List (Int × Int × Int)) × (List Int) × (List (Option Int)) × (List (Int × Int × Int)) × Int)
def cf_Shop : CT_Shop → List FV := fun x => [.sh ((eL (eT3 eI eI eI)).enc (x.1)), .li (List.map eI.enc (x.2.1)), .li (List.map (eO eI nnI).enc (x.2.2.1)), .li (List.map (eT3 eI eI eI).enc (x.2.2.2.1)), .sh (eI.enc (x.2.2.2.2))]
def cg_Shop : CT_Shop → List PyData := fun x => [(eL (eT3 eI eI eI)).enc (x.1), (eL eI).enc (x.2.1), (eL (eO eI nnI)).enc (x.2.2.1), (eL (eT3 eI eI eI)).enc (x.2.2.2.1), eI.enc (x.2.2.2.2)]
abbrev cn_Shop : List Str := ["orders", "left", "ends", "pieces", "now"]
abbrev cs_Shop (c : Addr) : Stor CT_Shop := insO c cn_Shop cf_Shop none
def m_Shop___init__ (a_orders : (List (Int × Int × Int))) : Option CT_Shop :=
  let y4 : (List (Int × Int × Int)) := a_orders
  let v_self_3 : (List (Int × Int × Int)) := y4
  compO a_orders () (fun x7 (t6 : Unit) kc12 => (
    kc12 (some x7.2.1) ())) [] fun (ys10 : List Int) (t11 : Unit) => (
    let y16 : (List Int) := ys10
    let v_self_15 : ((List (Int × Int × Int)) × (List Int)) := (v_self_3, y16)
    compO a_orders () (fun x19 (t18 : Unit) kc24 => (
      kc24 (some none) ())) [] fun (ys22 : List (Option Int)) (t23 : Unit) => (
      let y28 : (List (Option Int)) := ys22
      let v_self_27 : ((List (Int × Int × Int)) × (List Int) × (List (Option Int))) := (v_self_15.1, v_self_15.2, y28)
      let y32 : (List (Int × Int × Int)) := ([] : (List (Int × Int × Int)))
      let v_self_31 : ((List (Int × Int × Int)) × (List Int) × (List (Option Int)) × (List (Int × Int × Int))) := (v_self_27.1, v_self_27.2.1, v_self_27.2.2, y32)
      compO a_orders () (fun x35 (t34 : Unit) kc40 => (
        kc40 (some x35.1) ())) [] fun (ys38 : List Int) (t39 : Unit) => (
        let y45 : Int := (minDf (0 : Int) ys38)
        let v_self_44 : CT_Shop := (v_self_31.1, v_self_31.2.1, v_self_31.2.2.1, v_self_31.2.2.2, y45)
        some v_self_44)))
def m_Shop_here (a_self : CT_Shop) : Option (List Int) :=
  let v_rows_46 : (List (Int × Int)) := ([] : (List (Int × Int)))
  forO (enumL a_self.1) v_rows_46 (fun x50 (t49 : (List (Int × Int))) kc51 => (
    (let k66 := fun z : Bool => (some z)
    if (decide (x50.2.1 ≤ a_self.2.2.2.2)) = true then ((atI a_self.2.2.1 x50.1).bind fun y56 =>
    k66 (isNone ((eO eI nnI).enc y56))) else k66 false).bind fun z57 : Bool =>
    let k60 := fun j59 : (List (Int × Int)) => (
      kc51 j59)
    if z57 = true then (
      ck (decide (List.length t49 < SZ)) (
      let w65 : (List (Int × Int)) := t49 ++ [(x50.2.2.2, x50.1)]
      k60 w65))
    else (
      k60 t49)))
    fun t67 : (List (Int × Int)) => (
    (some (sortB (lt2 ltI ltI) t67)).bind fun y68 =>
    compO y68 () (fun x71 (t70 : Unit) kc76 => (
      kc76 (some x71.2) ())) [] fun (ys74 : List Int) (t75 : Unit) => (
      some ys74))
def m_Shop_note (t0 : CT_Shop) (a_at : Int) (a_size : Int) : Option (Unit × CT_Shop) :=
  (let k140 := fun z : Bool => (some z)
  if (!List.isEmpty t0.2.2.2.1) = true then ((atI t0.2.2.2.1 (-(1 : Int))).bind fun y80 =>
  let k141 := fun z : Bool => (k140 z)
  if (decide (y80.2.1 = t0.2.2.2.2)) = true then ((atI t0.2.2.2.1 (-(1 : Int))).bind fun y84 =>
  k141 (decide (y84.2.2 = a_at))) else k141 false) else k140 false).bind fun z86 : Bool =>
  let k89 := fun j88 : CT_Shop => (
    (atI j88.2.1 a_at).bind fun y113 =>
    let y120 : Int := (y113 - a_size)
    (ixN (List.length j88.2.1) a_at).bind fun n118 =>
    let v_self_119 : CT_Shop := (j88.1, List.set j88.2.1 n118 y120, j88.2.2.1, j88.2.2.2.1, j88.2.2.2.2)
    let y126 : Int := (v_self_119.2.2.2.2 + a_size)
    let v_self_125 : CT_Shop := (v_self_119.1, v_self_119.2.1, v_self_119.2.2.1, v_self_119.2.2.2.1, y126)
    (atI v_self_125.2.1 a_at).bind fun y128 =>
    let k132 := fun j131 : CT_Shop => (
      some ((), j131))
    if (decide (y128 = (0 : Int))) = true then (
      let y138 : (Option Int) := (some v_self_125.2.2.2.2)
      (ixN (List.length v_self_125.2.2.1) a_at).bind fun n136 =>
      let v_self_137 : CT_Shop := (v_self_125.1, v_self_125.2.1, List.set v_self_125.2.2.1 n136 y138, v_self_125.2.2.2.1, v_self_125.2.2.2.2)
      k132 v_self_137)
    else (
      k132 v_self_125))
  if z86 = true then (
    (atI t0.2.2.2.1 (-(1 : Int))).bind fun y91 =>
    let y101 : (Int × Int × Int) := (y91.1, (t0.2.2.2.2 + a_size), a_at)
    (ixN (List.length t0.2.2.2.1) (-(1 : Int))).bind fun n99 =>
    let v_self_100 : CT_Shop := (t0.1, t0.2.1, t0.2.2.1, List.set t0.2.2.2.1 n99 y101, t0.2.2.2.2)
    k89 v_self_100)
  else (
    let y107 : (Int × Int × Int) := (t0.2.2.2.2, (t0.2.2.2.2 + a_size), a_at)
    ck (decide (List.length t0.2.2.2.1 < SZ)) (
    let v_self_106 : CT_Shop := (t0.1, t0.2.1, t0.2.2.1, t0.2.2.2.1 ++ [y107], t0.2.2.2.2)
    k89 v_self_106))
def m_Shop_step (t0 : CT_Shop)  : Option (Bool × CT_Shop) :=
  compO t0.1 () (fun x144 (t143 : Unit) kc150 => (
    if (decide (t0.2.2.2.2 < x144.1)) = true then (kc150 (some x144.1) ()) else kc150 none ())) [] fun (ys148 : List Int) (t149 : Unit) => (
    let v_later_151 : (List Int) := ys148
    (m_Shop_here t0).bind fun r153 =>
    let v_row_154 : (List Int) := r153
    if (!(!List.isEmpty v_row_154)) = true then (
      if (!(!List.isEmpty v_later_151)) = true then (
        some (false, t0))
      else (
        (minI v_later_151).bind fun y158 =>
        let y162 : Int := y158
        let v_self_161 : CT_Shop := (t0.1, t0.2.1, t0.2.2.1, t0.2.2.2.1, y162)
        some (true, v_self_161)))
    else (
      (atI v_row_154 (0 : Int)).bind fun y164 =>
      let v_at_165 : Int := y164
      (atI t0.2.1 v_at_165).bind fun y168 =>
      compO v_later_151 () (fun x173 (t172 : Unit) kc179 => (
        kc179 (some (x173 - t0.2.2.2.2)) ())) [] fun (ys177 : List Int) (t178 : Unit) => (
        let z180 : (List Int) := [y168]
        let z181 : (List Int) := ys177
        ck (decide (List.length z180 + List.length z181 ≤ SZ)) ((minI (z180 ++ z181)).bind fun y182 =>
        let v_size_183 : Int := y182
        (m_Shop_note t0 v_at_165 v_size_183).bind fun r187 =>
        some (true, r187.2)))))
def m_worked (fu : Nat) (a_orders : (List (Int × Int × Int))) : Option ((List (Int × Int × Int)) × (List (Option Int))) :=
  (m_Shop___init__ a_orders).bind fun r190 =>
  let v_shop_191 : CT_Shop := r190
  let k201 := fun t198 : CT_Shop => (
    some (t198.2.2.2.1, t198.2.2.1))
  whileO fu v_shop_191 fun (t193 : CT_Shop) kc194 => (
    (m_Shop_step t193).bind fun r197 =>
    if r197.1 = true then (
      kc194 r197.2)
    else k201 r197.2)
def m_late_by (a_orders : (List (Int × Int × Int))) (a_ends : (List (Option Int))) : Option Int :=
  compO (enumL a_orders) () (fun x204 (t203 : Unit) kc213 => (
    (atI a_ends x204.1).bind fun y207 =>
    y207.bind fun y209 =>
    kc213 (some (y209 - x204.2.2.2)) ())) [] fun (ys211 : List Int) (t212 : Unit) => (
    (maxI ys211).bind fun y214 =>
    some y214)
def m_held_by (a_orders : (List (Int × Int × Int))) (a_members : (List Int)) : Option Int :=
  compO a_members () (fun x217 (t216 : Unit) kc224 => (
    (atI a_orders x217).bind fun y220 =>
    kc224 (some y220.1) ())) [] fun (ys222 : List Int) (t223 : Unit) => (
    (minI ys222).bind fun y225 =>
    let v_come_226 : Int := y225
    compO a_members () (fun x231 (t230 : Unit) kc238 => (
      (atI a_orders x231).bind fun y234 =>
      kc238 (some y234.2.1) ())) [] fun (ys236 : List Int) (t237 : Unit) => (
      compO a_members () (fun x242 (t241 : Unit) kc249 => (
        (atI a_orders x242).bind fun y245 =>
        kc249 (some y245.2.2) ())) [] fun (ys247 : List Int) (t248 : Unit) => (
        (maxI ys247).bind fun y250 =>
        some ((v_come_226 + (List.sum ys236)) - y250))))
def m_critical (a_orders : (List (Int × Int × Int))) : Option (List Int) :=
  let v_best_251 : (Option (Int × (List Int))) := none
  compO a_orders () (fun x255 (t254 : Unit) kc260 => (
    kc260 (some x255.1) ())) [] fun (ys258 : List Int) (t259 : Unit) => (
    ck (decide (List.length ys258 < 64)) (
    forO (usort ys258) v_best_251 (fun x263 (t262 : (Option (Int × (List Int)))) kc264 => (
      compO a_orders () (fun x268 (t267 : Unit) kc273 => (
        kc273 (some x268.2.2) ())) [] fun (ys271 : List Int) (t272 : Unit) => (
        ck (decide (List.length ys271 < 64)) (
        forO (usort ys271) t262 (fun x276 (t275 : (Option (Int × (List Int)))) kc277 => (
          compO (enumL a_orders) () (fun x281 (t280 : Unit) kc290 => (
            (let k321 := fun z : Bool => (some z)
            if (decide (x263 ≤ x281.2.1)) = true then (k321 (decide (x281.2.2.2 ≤ x276))) else k321 false).bind fun z285 : Bool =>
            if z285 = true then (kc290 (some x281.1) ()) else kc290 none ())) [] fun (ys288 : List Int) (t289 : Unit) => (
            let v_members_291 : (List Int) := ys288
            (let k319 := fun z : Bool => (some z)
            if (!List.isEmpty v_members_291) = true then ((let k320 := fun z : Bool => (some z)
            if (isNone ((eO (eT2 eI (eL eI)) nnT2).enc t275)) = true then k320 true else ((m_held_by a_orders v_members_291).bind fun r304 =>
            t275.bind fun y306 =>
            k320 (decide (y306.1 < r304)))).bind fun z307 : Bool =>
            k319 z307) else k319 false).bind fun z308 : Bool =>
            let k311 := fun j310 : (Option (Int × (List Int))) => (
              kc277 j310)
            if z308 = true then (
              (m_held_by a_orders v_members_291).bind fun r314 =>
              let v_best_317 : (Option (Int × (List Int))) := (some (r314, v_members_291))
              k311 v_best_317)
            else (
              k311 t275))))
          fun t322 : (Option (Int × (List Int))) => (
          kc264 t322)))))
      fun t324 : (Option (Int × (List Int))) => (
      t324.bind fun y325 =>
      some y325.2)))
def m_days (fu : Nat) (a_orders : (List (Int × Int × Int))) : Option ((Option Int) × (List (Int × Int × Int)) × (List Int)) :=
  if (!(!List.isEmpty a_orders)) = true then (
    some (none, ([] : (List (Int × Int × Int))), ([] : (List Int))))
  else (
    (m_worked fu a_orders).bind fun r332 =>
    let x333 : ((List (Int × Int × Int)) × (List (Option Int))) := r332
    (m_late_by a_orders x333.2).bind fun r337 =>
    (m_critical a_orders).bind fun r341 =>
    some ((some r337), x333.1, r341))
def m_pieces_fault (a_orders : (List (Int × Int × Int))) (a_pieces : (List (Int × Int × Int))) : Option PyData :=
  compO a_orders () (fun x345 (t344 : Unit) kc350 => (
    kc350 (some (0 : Int)) ())) [] fun (ys348 : List Int) (t349 : Unit) => (
    let v_done_351 : (List Int) := ys348
    let v_before_353 : (Option Int) := none
    forO (enumL a_pieces) (v_done_351, v_before_353) (fun x357 (t356 : ((List Int) × (Option Int))) kc358 => (
      let x360 : (Int × Int × Int) := x357.2
      ((let k398 := fun z : Bool => (some z)
      if decide ((0 : Int) ≤ x360.2.2) = true then (k398 (decide (x360.2.2 < (List.length a_orders : Int)))) else k398 false).bind fun z365 : Bool =>
      let k397 := fun z : Bool => (some z)
      if (!z365) = true then k397 true else (let k399 := fun z : Bool => (k397 z)
      if (decide (x360.2.1 ≤ x360.1)) = true then k399 true else ((let k400 := fun z : Bool => (some z)
      if (!isNone ((eO eI nnI).enc t356.2)) = true then (t356.2.bind fun y371 =>
      k400 (decide (x360.1 < y371))) else k400 false).bind fun z372 : Bool =>
      k399 z372))).bind fun z373 : Bool =>
      if z373 = true then (
        some (PyData.tuple [PyData.str ("piece" : Str), PyData.int x357.1]))
      else (
        (atI a_orders x360.2.2).bind fun y379 =>
        if (decide (x360.1 < y379.1)) = true then (
          some (PyData.tuple [PyData.str ("come" : Str), PyData.int x357.1]))
        else (
          (atI t356.1 x360.2.2).bind fun y386 =>
          (ixN (List.length t356.1) x360.2.2).bind fun n396 =>
          let z393 : (List Int) := List.set t356.1 n396 ((y386 + x360.2.1) - x360.1)
          let v_before_394 : (Option Int) := (some x360.2.1)
          kc358 (z393, v_before_394)))))
      fun t401 : ((List Int) × (Option Int)) => (
      forO (enumL a_orders) () (fun x404 (t403 : Unit) kc405 => (
        (atI t401.1 x404.1).bind fun y408 =>
        if (!decide (y408 = x404.2.2.1)) = true then (
          some (PyData.tuple [PyData.str ("time" : Str), PyData.int x404.1]))
        else (
          kc405 ())))
        fun t413 : Unit => (
        some PyData.none)))
def m_ends_of (a_orders : (List (Int × Int × Int))) (a_pieces : (List (Int × Int × Int))) : Option (List (Option Int)) :=
  compO a_orders () (fun x418 (t417 : Unit) kc423 => (
    kc423 (some (some x418.1)) ())) [] fun (ys421 : List (Option Int)) (t422 : Unit) => (
    let v_ends_424 : (List (Option Int)) := ys421
    forO a_pieces v_ends_424 (fun x428 (t427 : (List (Option Int))) kc429 => (
      (ixN (List.length t427) x428.2.2).bind fun n436 =>
      let z435 : (List (Option Int)) := List.set t427 n436 (some x428.2.1)
      kc429 z435))
      fun t437 : (List (Option Int)) => (
      some t437))
def m_days_fault (a_orders : (List (Int × Int × Int))) (a_told : ((Option Int) × (List (Int × Int × Int)) × (List Int))) : Option PyData :=
  let x439 : ((Option Int) × (List (Int × Int × Int)) × (List Int)) := a_told
  if (!(!List.isEmpty a_orders)) = true then (
    (ck (SeqAt.shaped ((eT3 (eO eI nnI) (eL (eT3 eI eI eI)) (eL eI)).enc a_told) && SeqAt.shaped ((eT3 (eO eI nnI) (eL (eT3 eI eI eI)) (eL eI)).enc (none, ([] : (List (Int × Int × Int))), ([] : (List Int))))) (let k449 := fun z450 : PyData => (
      some z450)
    if (PyData.eqv ((eT3 (eO eI nnI) (eL (eT3 eI eI eI)) (eL eI)).enc a_told) ((eT3 (eO eI nnI) (eL (eT3 eI eI eI)) (eL eI)).enc (none, ([] : (List (Int × Int × Int))), ([] : (List Int))))) = true then (k449 PyData.none) else (k449 (PyData.tuple [PyData.str ("none" : Str)])))).bind fun z448 : PyData =>
    some z448)
  else (
    (m_pieces_fault a_orders x439.2.1).bind fun r453 =>
    let v_fault_454 : PyData := r453
    if (!isNone (eD.enc v_fault_454)) = true then (
      some (PyData.tuple [PyData.str ("pieces" : Str), v_fault_454]))
    else (
      (m_ends_of a_orders x439.2.1).bind fun r462 =>
      (m_late_by a_orders r462).bind fun r464 =>
      ck (SeqAt.shaped (eI.enc r464) && SeqAt.shaped ((eO eI nnI).enc x439.1)) (if (!PyData.eqv (eI.enc r464) ((eO eI nnI).enc x439.1)) = true then (
        some (PyData.tuple [PyData.str ("lateness" : Str)]))
      else (
        ck (rgOk 0 ((List.length x439.2.2 : Int) - (1 : Int))) (compO (rangeL 0 ((List.length x439.2.2 : Int) - (1 : Int))) () (fun x471 (t470 : Unit) kc482 => (
          (atI x439.2.2 x471).bind fun y474 =>
          (atI x439.2.2 (x471 + (1 : Int))).bind fun y478 =>
          kc482 (some (decide (y474 < y478))) ())) [] fun (ys480 : List Bool) (t481 : Unit) => (
          let v_rising_483 : Bool := (List.all ys480 id)
          (let k512 := fun z : Bool => (some z)
          if (!(!List.isEmpty x439.2.2)) = true then k512 true else (let k513 := fun z : Bool => (k512 z)
          if (!v_rising_483) = true then k513 true else (compO x439.2.2 () (fun x489 (t488 : Unit) kc498 => (
            (let k514 := fun z : Bool => (some z)
            if decide ((0 : Int) ≤ x489) = true then (k514 (decide (x489 < (List.length a_orders : Int)))) else k514 false).bind fun z494 : Bool =>
            kc498 (some z494) ())) [] fun (ys496 : List Bool) (t497 : Unit) => (
            k513 (!(List.all ys496 id)))))).bind fun z499 : Bool =>
          if z499 = true then (
            some (PyData.tuple [PyData.str ("members" : Str)]))
          else (
            ((m_held_by a_orders x439.2.2).bind fun r504 =>
            x439.1.bind fun y506 =>
            let k510 := fun z511 : PyData => (
              some z511)
            if (decide (y506 ≤ r504)) = true then (k510 PyData.none) else (k510 (PyData.tuple [PyData.str ("held" : Str)]))).bind fun z509 : PyData =>
            some z509)))))))
def m__law_state (a_script : List Int) : Option TSt :=
  compO (cutL a_script none (some (63 : Int))) () (fun x518 (t517 : Unit) kc523 => (
    kc523 (some (if x518 < 0 then -x518 else x518)) ())) [] fun (ys521 : List Int) (t522 : Unit) => (
    let v_cells_524 : (List Int) := ys521
    let k529 := fun j528 : (List Int) => (
      some ((0 : Int), j528))
    if (decide ((List.length v_cells_524 : Int) = (0 : Int))) = true then (
      let v_cells_531 : (List Int) := [(0 : Int)]
      k529 v_cells_531)
    else (
      k529 v_cells_524))
def m__law_take (t0 : TSt) (a_most : Int) : Option (Int × TSt) :=
  ck (modOk (List.length t0.2 : Int)) (let v_at_535 : Int := (Int.fmod t0.1 (List.length t0.2 : Int))
  (atI t0.2 v_at_535).bind fun y538 =>
  let v_cell_539 : Int := y538
  if (decide ((1000000000000000000 : Int) ≤ v_cell_539)) = true then (
    ck (divOk a_most) ((ixN (List.length t0.2) v_at_535).bind fun n550 =>
    let z548 : (List Int) := List.set t0.2 n550 (Int.fdiv v_cell_539 a_most)
    ck (modOk a_most) (some ((Int.fmod v_cell_539 a_most), (t0.1, z548)))))
  else (
    let v_n_554 : Int := (t0.1 + (1 : Int))
    ck (mulOk v_cell_539 (48271 : Int)) (ck (mulOk v_n_554 (69621 : Int)) (ck (modOk (2147483647 : Int)) (let v_mixed_560 : Int := (Int.fmod ((v_cell_539 * (48271 : Int)) + (v_n_554 * (69621 : Int))) (2147483647 : Int))
    ck (mulOk v_mixed_560 (16807 : Int)) (ck (mulOk v_n_554 (7919 : Int)) (ck (modOk (1000000007 : Int)) (let v_mixed_567 : Int := (Int.fmod ((v_mixed_560 * (16807 : Int)) + (v_n_554 * (7919 : Int))) (1000000007 : Int))
    ck (divOk (7 : Int)) (ck (modOk a_most) (some ((Int.fmod (Int.fdiv v_mixed_567 (7 : Int)) a_most), (v_n_554, t0.2))))))))))))
def m__law_orders (t0 : TSt) (a_most : Int) : Option ((List (Int × Int × Int)) × TSt) :=
  (m__law_take t0 (2 : Int)).bind fun r575 =>
  (atI ([(4 : Int), (20 : Int)]) r575.1).bind fun y576 =>
  let v_size_577 : Int := y576
  let v_found_579 : (List (Int × Int × Int)) := ([] : (List (Int × Int × Int)))
  (m__law_take r575.2 (a_most + (1 : Int))).bind fun r583 =>
  ck (rgOk 0 r583.1) (forO (rangeL 0 r583.1) (r583.2, v_found_579) (fun x586 (t585 : (TSt × (List (Int × Int × Int)))) kc587 => (
    ck (mulOk (3 : Int) v_size_577) ((m__law_take t585.1 ((3 : Int) * v_size_577)).bind fun r591 =>
    let v_come_592 : Int := r591.1
    (m__law_take r591.2 v_size_577).bind fun r596 =>
    let v_time_597 : Int := ((1 : Int) + r596.1)
    ck (mulOk (2 : Int) v_size_577) ((m__law_take r596.2 ((2 : Int) * v_size_577)).bind fun r610 =>
    (m__law_take r610.2 (2 : Int)).bind fun r616 =>
    (atI ([(0 : Int), v_time_597]) r616.1).bind fun y617 =>
    ck (decide (List.length t585.2 < SZ)) (
    let w619 : (List (Int × Int × Int)) := t585.2 ++ [(v_come_592, v_time_597, ((v_come_592 + r610.1) + y617))]
    kc587 (r616.2, w619))))))
    fun t620 : (TSt × (List (Int × Int × Int))) => (
    some (t620.2, t620.1)))
def m__law_pieces_fault (a_orders : (List (Int × Int × Int))) (a_pieces : (List (Int × Int × Int))) : Option PyData :=
  compO a_orders () (fun x624 (t623 : Unit) kc629 => (
    kc629 (some (0 : Int)) ())) [] fun (ys627 : List Int) (t628 : Unit) => (
    let v_done_630 : (List Int) := ys627
    ck (rgOk 0 (List.length a_pieces : Int)) (forO (rangeL 0 (List.length a_pieces : Int)) v_done_630 (fun x634 (t633 : (List Int)) kc635 => (
      (atI a_pieces x634).bind fun y638 =>
      let x639 : (Int × Int × Int) := y638
      ((let k678 := fun z : Bool => (some z)
      if decide ((0 : Int) ≤ x639.2.2) = true then (k678 (decide (x639.2.2 < (List.length a_orders : Int)))) else k678 false).bind fun z644 : Bool =>
      let k677 := fun z : Bool => (some z)
      if (!z644) = true then k677 true else (let k679 := fun z : Bool => (k677 z)
      if (decide (x639.2.1 ≤ x639.1)) = true then k679 true else ((let k680 := fun z : Bool => (some z)
      if (decide ((0 : Int) < x634)) = true then ((atI a_pieces (x634 - (1 : Int))).bind fun y653 =>
      k680 (decide (x639.1 < y653.2.1))) else k680 false).bind fun z654 : Bool =>
      k679 z654))).bind fun z655 : Bool =>
      if z655 = true then (
        some (PyData.tuple [PyData.str ("piece" : Str), PyData.int x634]))
      else (
        (atI a_orders x639.2.2).bind fun y661 =>
        if (decide (x639.1 < y661.1)) = true then (
          some (PyData.tuple [PyData.str ("come" : Str), PyData.int x634]))
        else (
          (atI t633 x639.2.2).bind fun y668 =>
          (ixN (List.length t633) x639.2.2).bind fun n676 =>
          let z675 : (List Int) := List.set t633 n676 ((y668 + x639.2.1) - x639.1)
          kc635 z675))))
      fun t681 : (List Int) => (
      ck (rgOk 0 (List.length a_orders : Int)) (forO (rangeL 0 (List.length a_orders : Int)) () (fun x684 (t683 : Unit) kc685 => (
        (atI t681 x684).bind fun y688 =>
        (atI a_orders x684).bind fun y691 =>
        if (!decide (y688 = y691.2.1)) = true then (
          some (PyData.tuple [PyData.str ("time" : Str), PyData.int x684]))
        else (
          kc685 ())))
        fun t695 : Unit => (
        some PyData.none)))))
def m__law_held (a_orders : (List (Int × Int × Int))) (a_members : (List Int)) : Option Int :=
  compO a_members () (fun x711 (t710 : Unit) kc718 => (
    (atI a_orders x711).bind fun y714 =>
    kc718 (some y714.1) ())) [] fun (ys716 : List Int) (t717 : Unit) => (
    (minI ys716).bind fun y719 =>
    compO a_members () (fun x723 (t722 : Unit) kc730 => (
      (atI a_orders x723).bind fun y726 =>
      kc730 (some y726.2.1) ())) [] fun (ys728 : List Int) (t729 : Unit) => (
      compO a_members () (fun x734 (t733 : Unit) kc741 => (
        (atI a_orders x734).bind fun y737 =>
        kc741 (some y737.2.2) ())) [] fun (ys739 : List Int) (t740 : Unit) => (
        (maxI ys739).bind fun y742 =>
        some ((y719 + (List.sum ys728)) - y742))))
def m__law_fault (a_orders : (List (Int × Int × Int))) (a_told : ((Option Int) × (List (Int × Int × Int)) × (List Int))) : Option PyData :=
  let x743 : ((Option Int) × (List (Int × Int × Int)) × (List Int)) := a_told
  if (decide ((List.length a_orders : Int) = (0 : Int))) = true then (
    (ck (SeqAt.shaped ((eT3 (eO eI nnI) (eL (eT3 eI eI eI)) (eL eI)).enc a_told) && SeqAt.shaped ((eT3 (eO eI nnI) (eL (eT3 eI eI eI)) (eL eI)).enc (none, ([] : (List (Int × Int × Int))), ([] : (List Int))))) (let k754 := fun z755 : PyData => (
      some z755)
    if (PyData.eqv ((eT3 (eO eI nnI) (eL (eT3 eI eI eI)) (eL eI)).enc a_told) ((eT3 (eO eI nnI) (eL (eT3 eI eI eI)) (eL eI)).enc (none, ([] : (List (Int × Int × Int))), ([] : (List Int))))) = true then (k754 PyData.none) else (k754 (PyData.tuple [PyData.str ("none" : Str)])))).bind fun z753 : PyData =>
    some z753)
  else (
    (m__law_pieces_fault a_orders x743.2.1).bind fun r758 =>
    let v_found_759 : PyData := r758
    if (!isNone (eD.enc v_found_759)) = true then (
      some (PyData.tuple [PyData.str ("pieces" : Str), v_found_759]))
    else (
      ck (rgOk 0 (List.length a_orders : Int)) (compO (rangeL 0 (List.length a_orders : Int)) () (fun x766 (t765 : Unit) kc781 => (
        compO x743.2.1 () (fun x770 (t769 : Unit) kc776 => (
          if (decide (x770.2.2 = x766)) = true then (kc776 (some x770.2.1) ()) else kc776 none ())) [] fun (ys774 : List Int) (t775 : Unit) => (
          (maxI ys774).bind fun y777 =>
          kc781 (some y777) ()))) [] fun (ys779 : List Int) (t780 : Unit) => (
        let v_ends_782 : (List Int) := ys779
        ck (rgOk 0 (List.length a_orders : Int)) (compO (rangeL 0 (List.length a_orders : Int)) () (fun x786 (t785 : Unit) kc796 => (
          (atI v_ends_782 x786).bind fun y789 =>
          (atI a_orders x786).bind fun y792 =>
          kc796 (some (y789 - y792.2.2)) ())) [] fun (ys794 : List Int) (t795 : Unit) => (
          (maxI ys794).bind fun y797 =>
          ck (SeqAt.shaped (eI.enc y797) && SeqAt.shaped ((eO eI nnI).enc x743.1)) (if (!PyData.eqv (eI.enc y797) ((eO eI nnI).enc x743.1)) = true then (
            some (PyData.tuple [PyData.str ("lateness" : Str)]))
          else (
            (let k831 := fun z : Bool => (some z)
            if (decide ((List.length x743.2.2 : Int) = (0 : Int))) = true then k831 true else (ck (decide (List.length x743.2.2 < 64)) (
            let k832 := fun z : Bool => (k831 z)
            if (!decide (x743.2.2 = (usort x743.2.2))) = true then k832 true else (compO x743.2.2 () (fun x807 (t806 : Unit) kc816 => (
              (let k833 := fun z : Bool => (some z)
              if decide ((0 : Int) ≤ x807) = true then (k833 (decide (x807 < (List.length a_orders : Int)))) else k833 false).bind fun z811 : Bool =>
              if (!z811) = true then (kc816 (some x807) ()) else kc816 none ())) [] fun (ys814 : List Int) (t815 : Unit) => (
              k832 (decide ((0 : Int) < (List.length ys814 : Int)))))))).bind fun z818 : Bool =>
            if z818 = true then (
              some (PyData.tuple [PyData.str ("members" : Str)]))
            else (
              ((m__law_held a_orders x743.2.2).bind fun r823 =>
              x743.1.bind fun y825 =>
              let k829 := fun z830 : PyData => (
                some z830)
              if (decide (y825 ≤ r823)) = true then (k829 PyData.none) else (k829 (PyData.tuple [PyData.str ("held" : Str)]))).bind fun z828 : PyData =>
              some z828)))))))))
def m__law_worked (fu : Nat) (a_orders : (List (Int × Int × Int))) (a_keys : (List Int)) : Option ((List (Int × Int × Int)) × (List (Option Int))) :=
  compO a_orders () (fun x836 (t835 : Unit) kc841 => (
    kc841 (some x836.2.1) ())) [] fun (ys839 : List Int) (t840 : Unit) => (
    let v_left_842 : (List Int) := ys839
    compO a_orders () (fun x846 (t845 : Unit) kc851 => (
      kc851 (some (some (0 : Int))) ())) [] fun (ys849 : List (Option Int)) (t850 : Unit) => (
      let v_ends_852 : (List (Option Int)) := ys849
      let v_pieces_854 : (List (Int × Int × Int)) := ([] : (List (Int × Int × Int)))
      let v_now_856 : Int := (0 : Int)
      let k948 := fun t945 : ((List Int) × (List (Option Int)) × (List (Int × Int × Int)) × Int) => (
        some (t945.2.2.1, t945.2.1))
      whileO fu (v_left_842, v_ends_852, v_pieces_854, v_now_856) fun (t858 : ((List Int) × (List (Option Int)) × (List (Int × Int × Int)) × Int)) kc859 => (
        if (decide ((0 : Int) < (List.sum t858.1))) = true then (
          ck (rgOk 0 (List.length a_orders : Int)) (compO (rangeL 0 (List.length a_orders : Int)) () (fun x865 (t864 : Unit) kc882 => (
            ((atI a_orders x865).bind fun y867 =>
            let k944 := fun z : Bool => (some z)
            if (decide (y867.1 ≤ t858.2.2.2)) = true then ((atI t858.1 x865).bind fun y871 =>
            k944 (decide ((0 : Int) < y871))) else k944 false).bind fun z873 : Bool =>
            if z873 = true then ((atI a_keys x865).bind fun y876 =>
            kc882 (some (y876, x865)) ()) else kc882 none ())) [] fun (ys880 : List (Int × Int)) (t881 : Unit) => (
            (some (sortB (lt2 ltI ltI) ys880)).bind fun y883 =>
            let v_able_884 : (List (Int × Int)) := y883
            let k889 := fun j888 : ((List Int) × (List (Option Int)) × (List (Int × Int × Int))) => (
              let v_now_942 : Int := (t858.2.2.2 + (1 : Int))
              kc859 (j888.1, j888.2.1, j888.2.2, v_now_942))
            if (decide ((0 : Int) < (List.length v_able_884 : Int))) = true then (
              (atI v_able_884 (0 : Int)).bind fun y891 =>
              let v_k_892 : Int := y891.2
              (let k940 := fun z : Bool => (some z)
              if (decide ((0 : Int) < (List.length t858.2.2.1 : Int))) = true then ((atI t858.2.2.1 (-(1 : Int))).bind fun y897 =>
              k940 (decide ((y897.2.1, y897.2.2) = (t858.2.2.2, v_k_892)))) else k940 false).bind fun z901 : Bool =>
              let k904 := fun j903 : (List (Int × Int × Int)) => (
                (atI t858.1 v_k_892).bind fun y925 =>
                (ixN (List.length t858.1) v_k_892).bind fun n939 =>
                let z931 : (List Int) := List.set t858.1 n939 (y925 - (1 : Int))
                (ixN (List.length t858.2.1) v_k_892).bind fun n938 =>
                let z937 : (List (Option Int)) := List.set t858.2.1 n938 (some (t858.2.2.2 + (1 : Int)))
                k889 (z931, z937, j903))
              if z901 = true then (
                (atI t858.2.2.1 (-(1 : Int))).bind fun y906 =>
                (ixN (List.length t858.2.2.1) (-(1 : Int))).bind fun n916 =>
                let z915 : (List (Int × Int × Int)) := List.set t858.2.2.1 n916 (y906.1, (t858.2.2.2 + (1 : Int)), v_k_892)
                k904 z915)
              else (
                ck (decide (List.length t858.2.2.1 < SZ)) (
                let w923 : (List (Int × Int × Int)) := t858.2.2.1 ++ [(t858.2.2.2, (t858.2.2.2 + (1 : Int)), v_k_892)]
                k904 w923)))
            else (
              k889 (t858.1, t858.2.1, t858.2.2.1)))))
        else k948 t858)))
def m_law (fu : Nat) (a_script : List Int) : Option Bool :=
  (m__law_state a_script).bind fun r950 =>
  let v_state_951 : TSt := r950
  (m__law_orders v_state_951 (7 : Int)).bind fun r954 =>
  let v_orders_955 : (List (Int × Int × Int)) := r954.1
  (reprO ((eL (eT3 eI eI eI)).enc v_orders_955)).bind fun y957 =>
  let v_kept_958 : Str := y957
  compO v_orders_955 () (fun x962 (t961 : Unit) kc967 => (
    kc967 (some x962.2.2) ())) [] fun (ys965 : List Int) (t966 : Unit) => (
    let v_dues_968 : (List Int) := ys965
    ((m_worked fu v_orders_955).bind fun r981 =>
    (m__law_worked fu v_orders_955 v_dues_968).bind fun r985 =>
    ck (SeqAt.shaped ((eT2 (eL (eT3 eI eI eI)) (eL (eO eI nnI))).enc r981) && SeqAt.shaped ((eT2 (eL (eT3 eI eI eI)) (eL (eO eI nnI))).enc r985)) (let k1166 := fun z : Bool => (some z)
    if (!PyData.eqv ((eT2 (eL (eT3 eI eI eI)) (eL (eO eI nnI))).enc r981) ((eT2 (eL (eT3 eI eI eI)) (eL (eO eI nnI))).enc r985)) = true then k1166 true else ((reprO ((eL (eT3 eI eI eI)).enc v_orders_955)).bind fun y987 =>
    k1166 (!decide (y987 = v_kept_958))))).bind fun z989 : Bool =>
    if z989 = true then (
      some false)
    else (
      (m_days fu v_orders_955).bind fun r992 =>
      let v_told_993 : ((Option Int) × (List (Int × Int × Int)) × (List Int)) := r992
      (let k1164 := fun z : Bool => (some z)
      if (!true) = true then k1164 true else ((m__law_fault v_orders_955 v_told_993).bind fun r998 =>
      let k1165 := fun z : Bool => (k1164 z)
      if (!isNone (eD.enc r998)) = true then k1165 true else ((m_days_fault v_orders_955 v_told_993).bind fun r1002 =>
      k1165 (!isNone (eD.enc r1002))))).bind fun z1003 : Bool =>
      if z1003 = true then (
        some false)
      else (
        if (decide ((List.length v_orders_955 : Int) = (0 : Int))) = true then (
          some true)
        else (
          let v_sets_1008 : (List (List Int)) := [([] : (List Int))]
          ck (rgOk 0 (List.length v_orders_955 : Int)) (forO (rangeL 0 (List.length v_orders_955 : Int)) v_sets_1008 (fun x1012 (t1011 : (List (List Int))) kc1013 => (
            compO t1011 () (fun x1031 (t1030 : Unit) kc1040 => (
              let z1035 : (List Int) := x1031
              let z1036 : (List Int) := [x1012]
              ck (decide (List.length z1035 + List.length z1036 ≤ SZ)) (kc1040 (some (z1035 ++ z1036)) ()))) [] fun (ys1038 : List (List Int)) (t1039 : Unit) => (
              let z1041 : (List (List Int)) := t1011
              let z1042 : (List (List Int)) := ys1038
              ck (decide (List.length z1041 + List.length z1042 ≤ SZ)) (let v_sets_1043 : (List (List Int)) := (z1041 ++ z1042)
              kc1013 v_sets_1043))))
            fun t1045 : (List (List Int)) => (
            compO t1045 () (fun x1048 (t1047 : Unit) kc1057 => (
              if (decide ((0 : Int) < (List.length x1048 : Int))) = true then ((m__law_held v_orders_955 x1048).bind fun r1053 =>
              kc1057 (some r1053) ()) else kc1057 none ())) [] fun (ys1055 : List Int) (t1056 : Unit) => (
              let v_holds_1058 : (List Int) := ys1055
              (maxI v_holds_1058).bind fun y1061 =>
              ck (SeqAt.shaped ((eO eI nnI).enc v_told_993.1) && SeqAt.shaped (eI.enc y1061)) (if (!PyData.eqv ((eO eI nnI).enc v_told_993.1) (eI.enc y1061)) = true then (
                some false)
              else (
                forO t1045 () (fun x1065 (t1064 : Unit) kc1066 => (
                  (let k1100 := fun z : Bool => (some z)
                  if (decide ((0 : Int) < (List.length x1065 : Int))) = true then ((m_held_by v_orders_955 x1065).bind fun r1072 =>
                  (m__law_held v_orders_955 x1065).bind fun r1076 =>
                  k1100 (!decide (r1072 = r1076))) else k1100 false).bind fun z1077 : Bool =>
                  if z1077 = true then (
                    some false)
                  else (
                    (let k1097 := fun z : Bool => (some z)
                    if (decide ((0 : Int) < (List.length x1065 : Int))) = true then ((m_days_fault v_orders_955 ((v_told_993.1, v_told_993.2.1).1, (v_told_993.1, v_told_993.2.1).2, (x1065))).bind fun r1085 =>
                    ((m__law_held v_orders_955 x1065).bind fun r1089 =>
                    v_told_993.1.bind fun y1091 =>
                    let k1098 := fun z1099 : PyData => (
                      some z1099)
                    if (decide (y1091 ≤ r1089)) = true then (k1098 PyData.none) else (k1098 (PyData.tuple [PyData.str ("held" : Str)]))).bind fun z1094 : PyData =>
                    ck (SeqAt.shaped (eD.enc r1085) && SeqAt.shaped (eD.enc z1094)) (k1097 (!PyData.eqv (eD.enc r1085) (eD.enc z1094)))) else k1097 false).bind fun z1095 : Bool =>
                    if z1095 = true then (
                      some false)
                    else (
                      kc1066 ()))))
                  fun t1101 : Unit => (
                  ck (rgOk 0 (4 : Int)) (forO (rangeL 0 (4 : Int)) r954.2 (fun x1104 (t1103 : TSt) kc1105 => (
                    compO v_orders_955 t1103 (fun x1110 (t1109 : TSt) kc1117 => (
                      (m__law_take t1109 (9 : Int)).bind fun r1113 =>
                      kc1117 (some r1113.1) r1113.2)) [] fun (ys1115 : List Int) (t1116 : TSt) => (
                      (m__law_worked fu v_orders_955 ys1115).bind fun r1119 =>
                      let x1120 : ((List (Int × Int × Int)) × (List (Option Int))) := r1119
                      ck (rgOk 0 (List.length v_orders_955 : Int)) (compO (rangeL 0 (List.length v_orders_955 : Int)) () (fun x1124 (t1123 : Unit) kc1135 => (
                        (atI x1120.2 x1124).bind fun y1127 =>
                        y1127.bind fun y1131 =>
                        (atI v_orders_955 x1124).bind fun y1130 =>
                        kc1135 (some (y1131 - y1130.2.2)) ())) [] fun (ys1133 : List Int) (t1134 : Unit) => (
                        (maxI ys1133).bind fun y1136 =>
                        let v_late_1137 : Int := y1136
                        (v_told_993.1.bind fun y1140 =>
                        let k1155 := fun z : Bool => (some z)
                        if (decide (v_late_1137 < y1140)) = true then k1155 true else ((m_days_fault v_orders_955 ((some v_late_1137), x1120.1, v_told_993.2.2)).bind fun r1147 =>
                        (ck (SeqAt.shaped (eI.enc v_late_1137) && SeqAt.shaped ((eO eI nnI).enc v_told_993.1)) (let k1156 := fun z1157 : PyData => (
                          some z1157)
                        if (PyData.eqv (eI.enc v_late_1137) ((eO eI nnI).enc v_told_993.1)) = true then (k1156 PyData.none) else (k1156 (PyData.tuple [PyData.str ("held" : Str)])))).bind fun z1152 : PyData =>
                        ck (SeqAt.shaped (eD.enc r1147) && SeqAt.shaped (eD.enc z1152)) (k1155 (!PyData.eqv (eD.enc r1147) (eD.enc z1152))))).bind fun z1153 : Bool =>
                        if z1153 = true then (
                          some false)
                        else (
                          kc1105 t1116))))))
                    fun t1158 : TSt => (
                    (reprO ((eL (eT3 eI eI eI)).enc v_orders_955)).bind fun y1159 =>
                    some (decide (y1159 = v_kept_958))))))))))))))
section
variable {P : Program} {w : World} {K : Fg} {mg : Str → Option Value} {base : Heap}
abbrev n_Shop___init__ : List Str := ["self", "orders", "order", "_"]
theorem sc_Shop___init__ : FnScope n_Shop___init__ ["self", "orders"] (defScope s_Shop___init__) := ⟨rfl, rfl, rfl, by decide +kernel, rfl, by decide +kernel, by decide +kernel⟩
abbrev sp_Shop___init__ (K : Fg) (c_Shop : Addr) : Sp := spN K c_Shop (fun a : (List (Int × Int × Int)) × Unit => [.st none (List (Int × Int × Int)) (it (eL (eT3 eI eI eI))) a.1]) (cs_Shop c_Shop) (fun a => m_Shop___init__ a.1)
set_option maxHeartbeats 0 in
theorem ok_Shop___init__ (fa : Fa K mg) : FnOk P w K mg base CX0 1 fa.f_Shop___init__ fa.fd_Shop___init__ ["self", "orders"] (sp_Shop___init__ K fa.c_Shop) := by
  refine fnN fa.F_Shop___init__ sc_Shop___init__ 2 rfl (fun _ => rfl) fun cdv A' outer s H E hr => ?_
  have nd := sc_Shop___init__.nd
  have hu := hr.units
  have hu5 : (A'.deeper (envOfC "Shop.__init__" (defScope s_Shop___init__) s.heap.objs.size fa.f_Shop___init__ cdv)).units + 65 < cLine := by have := hr.un; omega
  rintro v0 ⟨a_orders, _⟩
  exact ⟨_, (lb_use (env := [.st (some v0) Unit (insN fa.c_Shop) (), .st none (List (Int × Int × Int)) (it (eL (eT3 eI eI eI))) a_orders, .un, .un]) (lb_cv0 0 rfl (lb_fldNO 0 (fun x : (List (Int × Int × Int)) => [.sh ((eL (eT3 eI eI eI)).enc (x))]) (fun y1 p2 => y1) fa.C_Shop fa.n_Shop_orders (lx_sh (fz_ls fz_it) (lx_listof lm_sh.w fa.z_list (lo_of (lx_var 1 cp_it rfl)) (fun _ => trivial))) (fun _ => rfl) (fun _ _ => rfl) (fun y1 p2 => (lb_fldNL 0 (fun x : ((List (Int × Int × Int)) × (List Int)) => [.sh ((eL (eT3 eI eI eI)).enc (x.1)), .li (List.map eI.enc (x.2))]) (fun y13 p14 => (y1, y13)) fa.C_Shop fa.n_Shop_left (lx_lc (envT := (fun t6 : Unit => [.st (some v0) (List (Int × Int × Int)) (insO fa.c_Shop ["orders"] (fun x : (List (Int × Int × Int)) => [.sh ((eL (eT3 eI eI eI)).enc (x))]) none) y1, .st none (List (Int × Int × Int)) (it (eL (eT3 eI eI eI))) a_orders, .un, .un])) rfl nd (blkOk_by (N := n_Shop___init__) (sc := defScope s_Shop___init__) (own := [("order", 2)]) (by decide +kernel)) (li_list lm_sh.w (lx_var 1 cp_it rfl)) (fun p5 => ()) (fun p5 => (Sub.refl _)) (by intro t i s hm he; simp at hm; subst hm; (have e := Option.some.inj he; exact e.symm)) (fun _ _ _ _ _ t6 => (lg_name 2 nd)) (fun _ _ _ _ _ t6 x7 => ltl_nil) (fun _ _ _ _ _ t6 x7 p8 => (lx_part part3_1 (lx_var 2 cp_it rfl))) (fun t6 x7 p8 p9 => ()) (fun t6 x7 p8 p9 => by exact (.keep (.keep (.drop (.keep Sub.nil))))) (fun t6 x7 p8 => ()) (fun t6 x7 p8 => by exact (.keep (.keep (.drop (.keep Sub.nil)))))) (fun _ => rfl) (fun _ _ => rfl) (fun y13 p14 => (lb_fldNL 0 (fun x : ((List (Int × Int × Int)) × (List Int) × (List (Option Int))) => [.sh ((eL (eT3 eI eI eI)).enc (x.1)), .li (List.map eI.enc (x.2.1)), .li (List.map (eO eI nnI).enc (x.2.2))]) (fun y25 p26 => ((y1, y13).1, (y1, y13).2, y25)) fa.C_Shop fa.n_Shop_ends (lx_lc (envT := (fun t18 : Unit => [.st (some v0) ((List (Int × Int × Int)) × (List Int)) (insO fa.c_Shop ["orders", "left"] (fun x : ((List (Int × Int × Int)) × (List Int)) => [.sh ((eL (eT3 eI eI eI)).enc (x.1)), .li (List.map eI.enc (x.2))]) none) (y1, y13), .st none (List (Int × Int × Int)) (it (eL (eT3 eI eI eI))) a_orders, .un, .un])) rfl nd (blkOk_by (N := n_Shop___init__) (sc := defScope s_Shop___init__) (own := [("_", 3)]) (by decide +kernel)) (li_list lm_sh.w (lx_var 1 cp_it rfl)) (fun p17 => ()) (fun p17 => (Sub.refl _)) (by intro t i s hm he; simp at hm; subst hm; (have e := Option.some.inj he; exact e.symm)) (fun _ _ _ _ _ t18 => (lg_name 3 nd)) (fun _ _ _ _ _ t18 x19 => ltl_nil) (fun _ _ _ _ _ t18 x19 p20 => (lx_as (E' := (eO eI nnI)) lx_non (fun _ => none) (fun _ => rfl))) (fun t18 x19 p20 p21 => ()) (fun t18 x19 p20 p21 => by exact (.keep (.keep (.keep (.drop Sub.nil))))) (fun t18 x19 p20 => ()) (fun t18 x19 p20 => by exact (.keep (.keep (.keep (.drop Sub.nil)))))) (fun _ => rfl) (fun _ _ => rfl) (fun y25 p26 => (lb_fldNL 0 (fun x : ((List (Int × Int × Int)) × (List Int) × (List (Option Int)) × (List (Int × Int × Int))) => [.sh ((eL (eT3 eI eI eI)).enc (x.1)), .li (List.map eI.enc (x.2.1)), .li (List.map (eO eI nnI).enc (x.2.2.1)), .li (List.map (eT3 eI eI eI).enc (x.2.2.2))]) (fun y29 p30 => (((y1, y13).1, (y1, y13).2, y25).1, ((y1, y13).1, (y1, y13).2, y25).2.1, ((y1, y13).1, (y1, y13).2, y25).2.2, y29)) fa.C_Shop fa.n_Shop_pieces (lx_list la_nil (eT3 eI eI eI) (fun _ => []) (fun _ => .nil)) (fun _ => rfl) (fun _ _ => rfl) (fun y29 p30 => (lb_fldNO 0 cf_Shop (fun y42 p43 => ((((y1, y13).1, (y1, y13).2, y25).1, ((y1, y13).1, (y1, y13).2, y25).2.1, ((y1, y13).1, (y1, y13).2, y25).2.2, y29).1, (((y1, y13).1, (y1, y13).2, y25).1, ((y1, y13).1, (y1, y13).2, y25).2.1, ((y1, y13).1, (y1, y13).2, y25).2.2, y29).2.1, (((y1, y13).1, (y1, y13).2, y25).1, ((y1, y13).1, (y1, y13).2, y25).2.1, ((y1, y13).1, (y1, y13).2, y25).2.2, y29).2.2.1, (((y1, y13).1, (y1, y13).2, y25).1, ((y1, y13).1, (y1, y13).2, y25).2.1, ((y1, y13).1, (y1, y13).2, y25).2.2, y29).2.2.2, y42)) fa.C_Shop fa.n_Shop_now (lx_minDg rfl lm_ow.w fa.z_min (lo_of (lx_lc (envT := (fun t34 : Unit => [.st (some v0) ((List (Int × Int × Int)) × (List Int) × (List (Option Int)) × (List (Int × Int × Int))) (insO fa.c_Shop ["orders", "left", "ends", "pieces"] (fun x : ((List (Int × Int × Int)) × (List Int) × (List (Option Int)) × (List (Int × Int × Int))) => [.sh ((eL (eT3 eI eI eI)).enc (x.1)), .li (List.map eI.enc (x.2.1)), .li (List.map (eO eI nnI).enc (x.2.2.1)), .li (List.map (eT3 eI eI eI).enc (x.2.2.2))]) none) (((y1, y13).1, (y1, y13).2, y25).1, ((y1, y13).1, (y1, y13).2, y25).2.1, ((y1, y13).1, (y1, y13).2, y25).2.2, y29), .st none (List (Int × Int × Int)) (it (eL (eT3 eI eI eI))) a_orders, .un, .un])) rfl nd (blkOk_by (N := n_Shop___init__) (sc := defScope s_Shop___init__) (own := [("order", 2)]) (by decide +kernel)) (li_list lm_sh.w (lx_var 1 cp_it rfl)) (fun p33 => ()) (fun p33 => (Sub.refl _)) (by intro t i s hm he; simp at hm; subst hm; (have e := Option.some.inj he; exact e.symm)) (fun _ _ _ _ _ t34 => (lg_name 2 nd)) (fun _ _ _ _ _ t34 x35 => ltl_nil) (fun _ _ _ _ _ t34 x35 p36 => (lx_part part3_0 (lx_var 2 cp_it rfl))) (fun t34 x35 p36 p37 => ()) (fun t34 x35 p36 p37 => by exact (.keep (.keep (.drop (.keep Sub.nil))))) (fun t34 x35 p36 => ()) (fun t34 x35 p36 => by exact (.keep (.keep (.drop (.keep Sub.nil))))))) (fun _ => trivial)) (fun _ => rfl) (fun _ _ => rfl) (fun y42 p43 => (lb_end ((((y1, y13).1, (y1, y13).2, y25).1, ((y1, y13).1, (y1, y13).2, y25).2.1, ((y1, y13).1, (y1, y13).2, y25).2.2, y29).1, (((y1, y13).1, (y1, y13).2, y25).1, ((y1, y13).1, (y1, y13).2, y25).2.1, ((y1, y13).1, (y1, y13).2, y25).2.2, y29).2.1, (((y1, y13).1, (y1, y13).2, y25).1, ((y1, y13).1, (y1, y13).2, y25).2.1, ((y1, y13).1, (y1, y13).2, y25).2.2, y29).2.2.1, (((y1, y13).1, (y1, y13).2, y25).1, ((y1, y13).1, (y1, y13).2, y25).2.1, ((y1, y13).1, (y1, y13).2, y25).2.2, y29).2.2.2, y42) (.keep (.drop (.keep (.keep Sub.nil)))))))))))))))) rfl), (by first | (unfold m_Shop___init__; dsimp only [id]; done) | (unfold m_Shop___init__; dsimp only [id]; rfl) | rfl)⟩
abbrev n_Shop_here : List Str := ["self", "rows", "at", "order", "due"]
theorem sc_Shop_here : FnScope n_Shop_here ["self"] (defScope s_Shop_here) := ⟨rfl, rfl, rfl, by decide +kernel, rfl, by decide +kernel, by decide +kernel⟩
abbrev sp_Shop_here (K : Fg) (c_Shop : Addr) : Sp := spL K (cs_Shop c_Shop) (fun a : Unit => []) (it (eL eI)) (fun t0 a => m_Shop_here t0 )
set_option maxHeartbeats 0 in
theorem ok_Shop_here (fa : Fa K mg) : FnOk P w K mg base CX0 1 fa.f_Shop_here fa.fd_Shop_here ["self"] (sp_Shop_here K fa.c_Shop) := by
  refine fnL fa.F_Shop_here sc_Shop_here 4 rfl (fun _ => rfl) fun cdv A' outer s H E hr => ?_
  have nd := sc_Shop_here.nd
  have hu := hr.units
  have hu5 : (A'.deeper (envOfC "Shop.here" (defScope s_Shop_here) s.heap.objs.size fa.f_Shop_here cdv)).units + 65 < cLine := by have := hr.un; omega
  rintro a_self _
  exact lb_use (env := [.lk CT_Shop (cs_Shop fa.c_Shop) a_self, .un, .un, .un, .un])
    (lb_set 1 nd (lx_list la_nil (eT2 eI eI) (fun _ => []) (fun _ => .nil)) (fun v_rows_46 p47 => (lb_for (envT := (fun t49 : (List (Int × Int)) => [.lk CT_Shop (cs_Shop fa.c_Shop) a_self, .st none (List (Int × Int)) (ls (it (eT2 eI eI))) t49, .un, .un, .un])) PassesOwn.never rfl (li_enum (by rfl) fa.z_enumerate lm_sh.w (lx_fldO (E := (eL (eT3 eI eI eI))) (y := a_self.1) none 0 0 fa.C_Shop fa.n_Shop_orders rfl rfl rfl)) (fun p48 => v_rows_46) (fun p48 => (Sub.refl _)) (fun t49 => (lg_tup (E := (eT2 eI (eT3 eI eI eI))) (lgs_cons (lg_name 2 nd) (fun _ => (lgs_cons (lg_name 3 nd) (fun _ => lgs_nil)))) (fun x => (x.1, x.2, ())) (fun a : Int × (Int × Int × Int) × Unit => [eI.enc (a.1), (eT3 eI eI eI).enc (a.2.1)]) (fun _ => (.cons (.cons .nil))) (fun _ => rfl) rfl (fun _ => rfl))) (fun x50 t49 kc51 kb52 => (lb_if (env1 := (fun j59 : (List (Int × Int)) => [.lk CT_Shop (cs_Shop fa.c_Shop) a_self, .st none (List (Int × Int)) (ls (it (eT2 eI eI))) j59, .st none Int (it eI) x50.1, .st none (Int × Int × Int) (it (eT3 eI eI eI)) x50.2, .un])) (lt_cut (lt_w (lw_and (lt_cmp (lc_le (lx_part part3_0 (lx_var 3 cp_it rfl)) (fun p53 => (lx_fldO (E := eI) (y := a_self.2.2.2.2) none 0 4 fa.C_Shop fa.n_Shop_now rfl rfl rfl))) (nomark _)) (fun p54 => (lw_and1 (lt_cmp (lc_isN (lx_fldIxO (E := (eO eI nnI)) (ys := a_self.2.2.1) none 0 2 fa.C_Shop fa.n_Shop_ends rfl rfl rfl (fun s55 => (lx_var 2 cp_it rfl)))) (nomark _)))) (fun p54 _ => Sub.refl _))) (fun _ => rfl)) (fun p58 => (lb_app 1 rfl (lx_tup (la_cons (lx_part part3_2 (lx_var 3 cp_it rfl)) (fun p63 => (la_cons (lx_var 2 cp_it rfl) (fun p64 => la_nil)))) (eT2 eI eI) (fun a : Int × Int × Unit => (a.1, a.2.1)) (fun a => [eI.enc a.1, eI.enc a.2.1]) (fun _ => (.cons (.cons .nil))) (fun _ => rfl)) (fun _ => rfl) (fun y62 p61 => (lb_end (t49 ++ [y62]) (Sub.refl _))))) (fun p58 => (lb_end t49 (Sub.refl _))) (fun j59 => (lb_end j59 (.keep (.keep (.drop (.drop (.keep Sub.nil))))))))) (fun t67 => (lb_ret (lx_sh (fz_ls fz_it) (lx_lc (envT := (fun t70 : Unit => [.lk CT_Shop (cs_Shop fa.c_Shop) a_self, .st none (List (Int × Int)) (ls (it (eT2 eI eI))) t67, .un, .un, .un])) rfl nd (blkOk_by (N := n_Shop_here) (sc := defScope s_Shop_here) (own := [("due", 4), ("at", 2)]) (by decide +kernel)) (li_list lm_ow.w (lx_sorted hu (odT2 evI odI odI) soT2 (dtT2 dtI dtI) lm_ow.w fa.z_sorted (lo_var 1 rfl) (fun _ => rfl))) (fun p69 => ()) (fun p69 => (Sub.refl _)) (by intro t i s hm he; simp at hm; rcases hm with rfl | rfl <;> (have e := Option.some.inj he; exact e.symm)) (fun _ _ _ _ _ t70 => (lg_tup (E := (eT2 eI eI)) (lgs_cons (lg_name 4 nd) (fun _ => (lgs_cons (lg_name 2 nd) (fun _ => lgs_nil)))) (fun x => (x.1, x.2, ())) (fun a : Int × Int × Unit => [eI.enc (a.1), eI.enc (a.2.1)]) (fun _ => (.cons (.cons .nil))) (fun _ => rfl) rfl (fun _ => rfl))) (fun _ _ _ _ _ t70 x71 => ltl_nil) (fun _ _ _ _ _ t70 x71 p72 => (lx_var 2 cp_it rfl)) (fun t70 x71 p72 p73 => ()) (fun t70 x71 p72 p73 => by exact (.keep (.keep (.drop (.keep (.drop Sub.nil)))))) (fun t70 x71 p72 => ()) (fun t70 x71 p72 => by exact (.keep (.keep (.drop (.keep (.drop Sub.nil)))))))) (fun _ => ()) (fun p => (.drop (.drop (.keep (.keep (.keep Sub.nil)))))))))))
    (by first | (unfold m_Shop_here; dsimp only [id]; done) | (unfold m_Shop_here; dsimp only [id]; rfl) | rfl)
abbrev n_Shop_note : List Str := ["self", "at", "size"]
theorem sc_Shop_note : FnScope n_Shop_note ["self", "at", "size"] (defScope s_Shop_note) := ⟨rfl, rfl, rfl, by decide +kernel, rfl, by decide +kernel, by decide +kernel⟩
abbrev sp_Shop_note (K : Fg) (c_Shop : Addr) : Sp := spI K (cs_Shop c_Shop) (fun a : Int × Int × Unit => [.st none Int (it eI) a.1, .st none Int (it eI) a.2.1]) (it eN) (fun t0 a => m_Shop_note t0 a.1 a.2.1)
set_option maxHeartbeats 0 in
theorem ok_Shop_note (fa : Fa K mg) : FnOk P w K mg base CX0 1 fa.f_Shop_note fa.fd_Shop_note ["self", "at", "size"] (sp_Shop_note K fa.c_Shop) := by
  refine fnI0 fa.F_Shop_note sc_Shop_note 0 rfl (fun _ => rfl) fun cdv A' outer s H E hr => ?_
  have nd := sc_Shop_note.nd
  have hu := hr.units
  have hu5 : (A'.deeper (envOfC "Shop.note" (defScope s_Shop_note) s.heap.objs.size fa.f_Shop_note cdv)).units + 65 < cLine := by have := hr.un; omega
  rintro v0 t0 ⟨a_at, a_size, _⟩
  exact ⟨_, (lb_use (env := [.st (some v0) CT_Shop (cs_Shop fa.c_Shop) t0, .st none Int (it eI) a_at, .st none Int (it eI) a_size]) (lb_if (env1 := (fun j88 : CT_Shop => [.st (some v0) CT_Shop (cs_Shop fa.c_Shop) j88, .st none Int (it eI) a_at, .st none Int (it eI) a_size])) (lt_cut (lt_w (lw_and (lt_fldTruO (E := (eT3 eI eI eI)) (ys := t0.2.2.2.1) (some (some v0)) 0 3 fa.C_Shop fa.n_Shop_pieces rfl rfl rfl) (fun p78 => (lw_and (lt_cmp (lc_eqI (lx_part part3_1 (lx_fldIxO (E := (eT3 eI eI eI)) (ys := t0.2.2.2.1) (some (some v0)) 0 3 fa.C_Shop fa.n_Shop_pieces rfl rfl rfl (fun s79 => (lx_neg lx_int)))) (fun p81 => (lx_fldO (E := eI) (y := t0.2.2.2.2) (some (some v0)) 0 4 fa.C_Shop fa.n_Shop_now rfl rfl rfl))) (nomark _)) (fun p82 => (lw_and1 (lt_cmp (lc_eqI (lx_part part3_2 (lx_fldIxO (E := (eT3 eI eI eI)) (ys := t0.2.2.2.1) (some (some v0)) 0 3 fa.C_Shop fa.n_Shop_pieces rfl rfl rfl (fun s83 => (lx_neg lx_int)))) (fun p85 => (lx_var 1 cp_it rfl))) (nomark _)))) (fun p82 _ => Sub.refl _))) (fun p78 _ => Sub.refl _))) (fun _ => rfl)) (fun p87 => (lb_fldSet (E := (eT3 eI eI eI)) (ys := fun p97 => t0.2.2.2.1) 0 3 (fun y96 p97 n99 => (t0.1, t0.2.1, t0.2.2.1, List.set t0.2.2.2.1 n99 y96, t0.2.2.2.2)) fa.C_Shop fa.n_Shop_pieces (lx_tup (la_cons (lx_part part3_0 (lx_fldIxO (E := (eT3 eI eI eI)) (ys := t0.2.2.2.1) (some (some v0)) 0 3 fa.C_Shop fa.n_Shop_pieces rfl rfl rfl (fun s90 => (lx_neg lx_int)))) (fun p92 => (la_cons (lx_add (lx_fldO (E := eI) (y := t0.2.2.2.2) (some (some v0)) 0 4 fa.C_Shop fa.n_Shop_now rfl rfl rfl) (fun p93 => (lx_var 2 cp_it rfl))) (fun p94 => (la_cons (lx_var 1 cp_it rfl) (fun p95 => la_nil)))))) (eT3 eI eI eI) (fun a : Int × Int × Int × Unit => (a.1, a.2.1, a.2.2.1)) (fun a => [eI.enc a.1, eI.enc a.2.1, eI.enc a.2.2.1]) (fun _ => (.cons (.cons (.cons .nil)))) (fun _ => rfl)) (fun _ => rfl) rfl (fun _ => rfl) (fun p97 s102 => (lx_neg lx_int)) (fun _ _ _ => rfl) (fun y96 p97 p98 n99 => (lb_end (t0.1, t0.2.1, t0.2.2.1, List.set t0.2.2.2.1 n99 y96, t0.2.2.2.2) (Sub.refl _))))) (fun p87 => (lb_fldApp (E := (eT3 eI eI eI)) (ys := t0.2.2.2.1) 0 3 (fun y103 => (t0.1, t0.2.1, t0.2.2.1, t0.2.2.2.1 ++ [y103], t0.2.2.2.2)) fa.C_Shop fa.n_Shop_pieces rfl rfl rfl (fun s105 => (lx_tup (la_cons (lx_fldO (E := eI) (y := t0.2.2.2.2) (some (some v0)) 0 4 fa.C_Shop fa.n_Shop_now rfl rfl rfl) (fun p108 => (la_cons (lx_add (lx_fldO (E := eI) (y := t0.2.2.2.2) (some (some v0)) 0 4 fa.C_Shop fa.n_Shop_now rfl rfl rfl) (fun p109 => (lx_var 2 cp_it rfl))) (fun p110 => (la_cons (lx_var 1 cp_it rfl) (fun p111 => la_nil)))))) (eT3 eI eI eI) (fun a : Int × Int × Int × Unit => (a.1, a.2.1, a.2.2.1)) (fun a => [eI.enc a.1, eI.enc a.2.1, eI.enc a.2.2.1]) (fun _ => (.cons (.cons (.cons .nil)))) (fun _ => rfl))) (fun _ => rfl) (fun y103 p104 => (lb_end (t0.1, t0.2.1, t0.2.2.1, t0.2.2.2.1 ++ [y103], t0.2.2.2.2) (Sub.refl _))))) (fun j88 => (lb_fldSet (E := eI) (ys := fun p116 => j88.2.1) 0 1 (fun y115 p116 n118 => (j88.1, List.set j88.2.1 n118 y115, j88.2.2.1, j88.2.2.2.1, j88.2.2.2.2)) fa.C_Shop fa.n_Shop_left (lx_sub (lx_fldIxO (E := eI) (ys := j88.2.1) (some (some v0)) 0 1 fa.C_Shop fa.n_Shop_left rfl rfl rfl (fun s112 => (lx_var 1 cp_it rfl))) (fun p114 => (lx_var 2 cp_it rfl))) (fun _ => rfl) rfl (fun _ => rfl) (fun p116 s121 => (lx_var 1 cp_it rfl)) (fun _ _ _ => rfl) (fun y115 p116 p117 n118 => (lb_fldOO 0 4 (fun y123 p124 => ((j88.1, List.set j88.2.1 n118 y115, j88.2.2.1, j88.2.2.2.1, j88.2.2.2.2).1, (j88.1, List.set j88.2.1 n118 y115, j88.2.2.1, j88.2.2.2.1, j88.2.2.2.2).2.1, (j88.1, List.set j88.2.1 n118 y115, j88.2.2.1, j88.2.2.2.1, j88.2.2.2.2).2.2.1, (j88.1, List.set j88.2.1 n118 y115, j88.2.2.1, j88.2.2.2.1, j88.2.2.2.2).2.2.2.1, y123)) fa.C_Shop fa.n_Shop_now (lx_add (lx_fldO (E := eI) (y := (j88.1, List.set j88.2.1 n118 y115, j88.2.2.1, j88.2.2.2.1, j88.2.2.2.2).2.2.2.2) (some (some v0)) 0 4 fa.C_Shop fa.n_Shop_now rfl rfl rfl) (fun p122 => (lx_var 2 cp_it rfl))) (fun _ => rfl) rfl (fun _ => rfl) (fun _ _ => rfl) (fun y123 p124 => (lb_if (env1 := (fun j131 : CT_Shop => [.st (some v0) CT_Shop (cs_Shop fa.c_Shop) j131, .st none Int (it eI) a_at, .st none Int (it eI) a_size])) (lt_cmp (lc_eqI (lx_fldIxO (E := eI) (ys := ((j88.1, List.set j88.2.1 n118 y115, j88.2.2.1, j88.2.2.2.1, j88.2.2.2.2).1, (j88.1, List.set j88.2.1 n118 y115, j88.2.2.1, j88.2.2.2.1, j88.2.2.2.2).2.1, (j88.1, List.set j88.2.1 n118 y115, j88.2.2.1, j88.2.2.2.1, j88.2.2.2.2).2.2.1, (j88.1, List.set j88.2.1 n118 y115, j88.2.2.1, j88.2.2.2.1, j88.2.2.2.2).2.2.2.1, y123).2.1) (some (some v0)) 0 1 fa.C_Shop fa.n_Shop_left rfl rfl rfl (fun s127 => (lx_var 1 cp_it rfl))) (fun p129 => lx_int)) (nomark _)) (fun p130 => (lb_fldSet (E := (eO eI nnI)) (ys := fun p134 => ((j88.1, List.set j88.2.1 n118 y115, j88.2.2.1, j88.2.2.2.1, j88.2.2.2.2).1, (j88.1, List.set j88.2.1 n118 y115, j88.2.2.1, j88.2.2.2.1, j88.2.2.2.2).2.1, (j88.1, List.set j88.2.1 n118 y115, j88.2.2.1, j88.2.2.2.1, j88.2.2.2.2).2.2.1, (j88.1, List.set j88.2.1 n118 y115, j88.2.2.1, j88.2.2.2.1, j88.2.2.2.2).2.2.2.1, y123).2.2.1) 0 2 (fun y133 p134 n136 => (((j88.1, List.set j88.2.1 n118 y115, j88.2.2.1, j88.2.2.2.1, j88.2.2.2.2).1, (j88.1, List.set j88.2.1 n118 y115, j88.2.2.1, j88.2.2.2.1, j88.2.2.2.2).2.1, (j88.1, List.set j88.2.1 n118 y115, j88.2.2.1, j88.2.2.2.1, j88.2.2.2.2).2.2.1, (j88.1, List.set j88.2.1 n118 y115, j88.2.2.1, j88.2.2.2.1, j88.2.2.2.2).2.2.2.1, y123).1, ((j88.1, List.set j88.2.1 n118 y115, j88.2.2.1, j88.2.2.2.1, j88.2.2.2.2).1, (j88.1, List.set j88.2.1 n118 y115, j88.2.2.1, j88.2.2.2.1, j88.2.2.2.2).2.1, (j88.1, List.set j88.2.1 n118 y115, j88.2.2.1, j88.2.2.2.1, j88.2.2.2.2).2.2.1, (j88.1, List.set j88.2.1 n118 y115, j88.2.2.1, j88.2.2.2.1, j88.2.2.2.2).2.2.2.1, y123).2.1, List.set (((j88.1, List.set j88.2.1 n118 y115, j88.2.2.1, j88.2.2.2.1, j88.2.2.2.2).1, (j88.1, List.set j88.2.1 n118 y115, j88.2.2.1, j88.2.2.2.1, j88.2.2.2.2).2.1, (j88.1, List.set j88.2.1 n118 y115, j88.2.2.1, j88.2.2.2.1, j88.2.2.2.2).2.2.1, (j88.1, List.set j88.2.1 n118 y115, j88.2.2.1, j88.2.2.2.1, j88.2.2.2.2).2.2.2.1, y123).2.2.1) n136 y133, ((j88.1, List.set j88.2.1 n118 y115, j88.2.2.1, j88.2.2.2.1, j88.2.2.2.2).1, (j88.1, List.set j88.2.1 n118 y115, j88.2.2.1, j88.2.2.2.1, j88.2.2.2.2).2.1, (j88.1, List.set j88.2.1 n118 y115, j88.2.2.1, j88.2.2.2.1, j88.2.2.2.2).2.2.1, (j88.1, List.set j88.2.1 n118 y115, j88.2.2.1, j88.2.2.2.1, j88.2.2.2.2).2.2.2.1, y123).2.2.2.1, ((j88.1, List.set j88.2.1 n118 y115, j88.2.2.1, j88.2.2.2.1, j88.2.2.2.2).1, (j88.1, List.set j88.2.1 n118 y115, j88.2.2.1, j88.2.2.2.1, j88.2.2.2.2).2.1, (j88.1, List.set j88.2.1 n118 y115, j88.2.2.1, j88.2.2.2.1, j88.2.2.2.2).2.2.1, (j88.1, List.set j88.2.1 n118 y115, j88.2.2.1, j88.2.2.2.1, j88.2.2.2.2).2.2.2.1, y123).2.2.2.2)) fa.C_Shop fa.n_Shop_ends (lx_some (E := eI) (lx_fldO (E := eI) (y := ((j88.1, List.set j88.2.1 n118 y115, j88.2.2.1, j88.2.2.2.1, j88.2.2.2.2).1, (j88.1, List.set j88.2.1 n118 y115, j88.2.2.1, j88.2.2.2.1, j88.2.2.2.2).2.1, (j88.1, List.set j88.2.1 n118 y115, j88.2.2.1, j88.2.2.2.1, j88.2.2.2.2).2.2.1, (j88.1, List.set j88.2.1 n118 y115, j88.2.2.1, j88.2.2.2.1, j88.2.2.2.2).2.2.2.1, y123).2.2.2.2) (some (some v0)) 0 4 fa.C_Shop fa.n_Shop_now rfl rfl rfl)) (fun _ => rfl) rfl (fun _ => rfl) (fun p134 s139 => (lx_var 1 cp_it rfl)) (fun _ _ _ => rfl) (fun y133 p134 p135 n136 => (lb_end (((j88.1, List.set j88.2.1 n118 y115, j88.2.2.1, j88.2.2.2.1, j88.2.2.2.2).1, (j88.1, List.set j88.2.1 n118 y115, j88.2.2.1, j88.2.2.2.1, j88.2.2.2.2).2.1, (j88.1, List.set j88.2.1 n118 y115, j88.2.2.1, j88.2.2.2.1, j88.2.2.2.2).2.2.1, (j88.1, List.set j88.2.1 n118 y115, j88.2.2.1, j88.2.2.2.1, j88.2.2.2.2).2.2.2.1, y123).1, ((j88.1, List.set j88.2.1 n118 y115, j88.2.2.1, j88.2.2.2.1, j88.2.2.2.2).1, (j88.1, List.set j88.2.1 n118 y115, j88.2.2.1, j88.2.2.2.1, j88.2.2.2.2).2.1, (j88.1, List.set j88.2.1 n118 y115, j88.2.2.1, j88.2.2.2.1, j88.2.2.2.2).2.2.1, (j88.1, List.set j88.2.1 n118 y115, j88.2.2.1, j88.2.2.2.1, j88.2.2.2.2).2.2.2.1, y123).2.1, List.set (((j88.1, List.set j88.2.1 n118 y115, j88.2.2.1, j88.2.2.2.1, j88.2.2.2.2).1, (j88.1, List.set j88.2.1 n118 y115, j88.2.2.1, j88.2.2.2.1, j88.2.2.2.2).2.1, (j88.1, List.set j88.2.1 n118 y115, j88.2.2.1, j88.2.2.2.1, j88.2.2.2.2).2.2.1, (j88.1, List.set j88.2.1 n118 y115, j88.2.2.1, j88.2.2.2.1, j88.2.2.2.2).2.2.2.1, y123).2.2.1) n136 y133, ((j88.1, List.set j88.2.1 n118 y115, j88.2.2.1, j88.2.2.2.1, j88.2.2.2.2).1, (j88.1, List.set j88.2.1 n118 y115, j88.2.2.1, j88.2.2.2.1, j88.2.2.2.2).2.1, (j88.1, List.set j88.2.1 n118 y115, j88.2.2.1, j88.2.2.2.1, j88.2.2.2.2).2.2.1, (j88.1, List.set j88.2.1 n118 y115, j88.2.2.1, j88.2.2.2.1, j88.2.2.2.2).2.2.2.1, y123).2.2.2.1, ((j88.1, List.set j88.2.1 n118 y115, j88.2.2.1, j88.2.2.2.1, j88.2.2.2.2).1, (j88.1, List.set j88.2.1 n118 y115, j88.2.2.1, j88.2.2.2.1, j88.2.2.2.2).2.1, (j88.1, List.set j88.2.1 n118 y115, j88.2.2.1, j88.2.2.2.1, j88.2.2.2.2).2.2.1, (j88.1, List.set j88.2.1 n118 y115, j88.2.2.1, j88.2.2.2.1, j88.2.2.2.2).2.2.2.1, y123).2.2.2.2) (Sub.refl _))))) (fun p130 => (lb_end ((j88.1, List.set j88.2.1 n118 y115, j88.2.2.1, j88.2.2.2.1, j88.2.2.2.2).1, (j88.1, List.set j88.2.1 n118 y115, j88.2.2.1, j88.2.2.2.1, j88.2.2.2.2).2.1, (j88.1, List.set j88.2.1 n118 y115, j88.2.2.1, j88.2.2.2.1, j88.2.2.2.2).2.2.1, (j88.1, List.set j88.2.1 n118 y115, j88.2.2.1, j88.2.2.2.1, j88.2.2.2.2).2.2.2.1, y123) (Sub.refl _))) (fun j131 => (lb_end j131 (.keep (.drop (.drop Sub.nil)))))))))))) rfl), (by first | (unfold m_Shop_note; dsimp only [id]; done) | (unfold m_Shop_note; dsimp only [id]; rfl) | rfl)⟩
abbrev n_Shop_step : List Str := ["self", "later", "order", "row", "at", "size", "time"]
theorem sc_Shop_step : FnScope n_Shop_step ["self"] (defScope s_Shop_step) := ⟨rfl, rfl, rfl, by decide +kernel, rfl, by decide +kernel, by decide +kernel⟩
abbrev sp_Shop_step (K : Fg) (c_Shop : Addr) : Sp := spI K (cs_Shop c_Shop) (fun a : Unit => []) (it eB) (fun t0 a => m_Shop_step t0 )
set_option maxHeartbeats 0 in
theorem ok_Shop_step (fa : Fa K mg) : FnOk P w K mg base CX0 2 fa.f_Shop_step fa.fd_Shop_step ["self"] (sp_Shop_step K fa.c_Shop) := by
  refine fnI fa.F_Shop_step sc_Shop_step 6 rfl (fun _ => rfl) fun cdv A' outer s H E hr => ?_
  have nd := sc_Shop_step.nd
  have hu := hr.units
  have hu5 : (A'.deeper (envOfC "Shop.step" (defScope s_Shop_step) s.heap.objs.size fa.f_Shop_step cdv)).units + 65 < cLine := by have := hr.un; omega
  rintro v0 t0 _
  exact lb_use (env := [.st (some v0) CT_Shop (cs_Shop fa.c_Shop) t0, .un, .un, .un, .un, .un, .un])
    (lb_setLc (envT := (fun t143 : Unit => [.st (some v0) CT_Shop (cs_Shop fa.c_Shop) t0, .un, .un, .un, .un, .un, .un])) rfl nd (blkOk_by (N := n_Shop_step) (sc := defScope s_Shop_step) (own := [("order", 2)]) (by decide +kernel)) 1 (li_list lm_sh.w (lx_fldO (E := (eL (eT3 eI eI eI))) (y := t0.1) (some (some v0)) 0 0 fa.C_Shop fa.n_Shop_orders rfl rfl rfl)) (fun p142 => ()) (fun p142 => (Sub.refl _)) (by intro t i s hm he; simp at hm; subst hm; (have e := Option.some.inj he; exact e.symm)) (fun _ _ _ _ _ t143 => (lg_name 2 nd)) (fun _ _ _ _ _ t143 x144 => (ltl_one (lt_cmp (lc_gt (lx_part part3_0 (lx_var 2 cp_it rfl)) (fun p145 => (lx_fldO (E := eI) (y := t0.2.2.2.2) (some (some v0)) 0 4 fa.C_Shop fa.n_Shop_now rfl rfl rfl))) (nomark _)))) (fun _ _ _ _ _ t143 x144 p146 => (lx_part part3_0 (lx_var 2 cp_it rfl))) (fun t143 x144 p146 p147 => ()) (fun t143 x144 p146 p147 => by exact (.keep (.keep (.drop (.keep (.keep (.keep (.keep Sub.nil)))))))) (fun t143 x144 p146 => ()) (fun t143 x144 p146 => by exact (.keep (.keep (.drop (.keep (.keep (.keep (.keep Sub.nil)))))))) (fun v_later_151 p152 => (lb_set 3 nd (lx_methLO0 0 fa.C_Shop fa.m_Shop_here (ok_Shop_here fa) (hr.mono (by decide)) fa.b_Shop_here rfl) (fun v_row_154 p155 => (lb_ifr (lt_not (lt_tru lm_sh.w (lo_of (lx_var 3 cp_it rfl)) (fun _ => trivial))) (fun p156 => (lb_ifr (lt_not (lt_tru lm_ow.w (lo_var 1 rfl) (fun _ => rfl))) (fun p157 => (lb_ret lx_bl (fun p => t0) (fun p => (.keep (.drop (.keep (.drop (.keep (.keep (.keep Sub.nil)))))))))) (fun p157 => (lb_fldOO 0 4 (fun y159 p160 => (t0.1, t0.2.1, t0.2.2.1, t0.2.2.2.1, y159)) fa.C_Shop fa.n_Shop_now (lx_minI rfl lm_ow.w fa.z_min (lo_var 1 rfl) (fun _ => rfl)) (fun _ => rfl) rfl (fun _ => rfl) (fun _ _ => rfl) (fun y159 p160 => (lb_ret lx_bl (fun p => (t0.1, t0.2.1, t0.2.2.1, t0.2.2.2.1, y159)) (fun p => (.keep (.drop (.keep (.drop (.keep (.keep (.keep Sub.nil)))))))))))))) (fun p156 => (lb_set 4 nd (lx_ix lm_sh.w (lo_of (lx_var 3 cp_it rfl)) (fun p163 => lx_int) (fun _ _ => trivial)) (fun v_at_165 p166 => (lb_set 5 nd (lx_minI rfl lm_ow.w fa.z_min (lo_of (lx_cat lm_ow lm_ow (lo_of (lx_list (la_cons (lx_fldIxO (E := eI) (ys := t0.2.1) (some (some v0)) 0 1 fa.C_Shop fa.n_Shop_left rfl rfl rfl (fun s167 => (lx_var 4 cp_it rfl))) (fun p169 => la_nil)) eI (fun a : Int × Unit => [a.1]) (fun _ => (.cons .nil)))) (fun p170 => (lo_of (lx_lc (envT := (fun t172 : Unit => [.st (some v0) CT_Shop (cs_Shop fa.c_Shop) t0, .st none (List Int) (it (eL eI)) v_later_151, .un, .st none (List Int) (it (eL eI)) v_row_154, .st none Int (it eI) v_at_165, .un, .un])) rfl nd (blkOk_by (N := n_Shop_step) (sc := defScope s_Shop_step) (own := [("time", 6)]) (by decide +kernel)) (li_list lm_sh.w (lx_frz 1 (fz_ls fz_it) rfl)) (fun p171 => ()) (fun p171 => (Sub.refl _)) (by intro t i s hm he; simp at hm; subst hm; (have e := Option.some.inj he; exact e.symm)) (fun _ _ _ _ _ t172 => (lg_name 6 nd)) (fun _ _ _ _ _ t172 x173 => ltl_nil) (fun _ _ _ _ _ t172 x173 p174 => (lx_sub (lx_var 6 cp_it rfl) (fun p175 => (lx_fldO (E := eI) (y := t0.2.2.2.2) (some (some v0)) 0 4 fa.C_Shop fa.n_Shop_now rfl rfl rfl)))) (fun t172 x173 p174 p176 => ()) (fun t172 x173 p174 p176 => by exact (.keep (.keep (.keep (.keep (.keep (.keep (.drop Sub.nil)))))))) (fun t172 x173 p174 => ()) (fun t172 x173 p174 => by exact (.keep (.keep (.keep (.keep (.keep (.keep (.drop Sub.nil))))))))))) (fun _ _ => trivial) (fun _ _ => trivial))) (fun _ => trivial)) (fun v_size_183 p184 => by exact (lb_expr (lx_methIO 0 fa.C_Shop fa.m_Shop_note (ok_Shop_note fa) (hr.mono (by decide)) fa.b_Shop_note (fun _ => (.cons cp_it (.cons cp_it .nil))) rfl (la_cons (lx_var 4 cp_it rfl) (fun p185 => (la_cons (lx_var 5 cp_it rfl) (fun p186 => la_nil)))) (fun _ => rfl)) (fun p188 => (lb_ret lx_bl (fun p => p188.2) (fun p => (.keep (.drop (.keep (.drop (.drop (.drop (.keep Sub.nil)))))))))))))))))))) (sw_true rfl rfl rfl (by decide +kernel)))
    (by first | (unfold m_Shop_step; dsimp only [id]; done) | (unfold m_Shop_step; dsimp only [id]; rfl) | rfl)
abbrev n_worked : List Str := ["orders", "shop"]
theorem sc_worked : FnScope n_worked ["orders"] (defScope s_worked) := ⟨rfl, rfl, rfl, by decide +kernel, rfl, by decide +kernel, by decide +kernel⟩
abbrev sp_worked (K : Fg) (fu : Nat) : Sp := spP K (fun a : (List (Int × Int × Int)) × Unit => [.st none (List (Int × Int × Int)) (it (eL (eT3 eI eI eI))) a.1]) (it (eT2 (eL (eT3 eI eI eI)) (eL (eO eI nnI)))) (fun a => m_worked fu a.1)
set_option maxHeartbeats 0 in
theorem ok_worked (fa : Fa K mg) (fu : Nat) : FnOk P w K mg base CX0 3 fa.f_worked fa.fd_worked ["orders"] (sp_worked K fu) := by
  refine fnP fa.F_worked sc_worked 1 rfl (fun _ => rfl) fun cdv A' outer s H E hr => ?_
  have nd := sc_worked.nd
  have hu := hr.units
  have hu5 : (A'.deeper (envOfC "worked" (defScope s_worked) s.heap.objs.size fa.f_worked cdv)).units + 65 < cLine := by have := hr.un; omega
  rintro ⟨a_orders, _⟩
  exact lb_use (env := [.st none (List (Int × Int × Int)) (it (eL (eT3 eI eI eI))) a_orders, .un])
    (lb_set 1 nd (lx_make fa.M_Shop (ok_Shop___init__ fa) (hr.mono (by decide)) fa.g_Shop fa.b_Shop___init__ (fun _ => (.cons cp_it .nil)) (la_cons (lx_var 0 cp_it rfl) (fun p189 => la_nil))) (fun v_shop_191 p192 => (lb_whileC (envT := (fun t193 : CT_Shop => [.st none (List (Int × Int × Int)) (it (eL (eT3 eI eI eI))) a_orders, .st none CT_Shop (cs_Shop fa.c_Shop) t193])) fu (fun t193 p196 => p196) PassesOwn.never v_shop_191 (Sub.refl _) (fun t193 => (lt_val (lx_methIO0 1 fa.C_Shop fa.m_Shop_step (ok_Shop_step fa) (hr.mono (by decide)) fa.b_Shop_step rfl))) (fun t193 p196 => Sub.refl _) (fun t193 p196 kc194 kb195 => (lb_pass (lb_end p196 (Sub.refl _)))) (fun t198 => (lb_frzO (g := cg_Shop) 1 rfl rfl rfl (lb_ret (lx_tup (la_cons (lx_fld (E := (eL (eT3 eI eI eI))) (y := t198.2.2.2.1) 1 3 fa.C_Shop fa.n_Shop_pieces rfl rfl rfl) (fun p199 => (la_cons (lx_fld (E := (eL (eO eI nnI))) (y := t198.2.2.1) 1 2 fa.C_Shop fa.n_Shop_ends rfl rfl rfl) (fun p200 => la_nil)))) (eT2 (eL (eT3 eI eI eI)) (eL (eO eI nnI))) (fun a : (List (Int × Int × Int)) × (List (Option Int)) × Unit => (a.1, a.2.1)) (fun a => [(eL (eT3 eI eI eI)).enc a.1, (eL (eO eI nnI)).enc a.2.1]) (fun _ => (.cons (.cons .nil))) (fun _ => rfl)) (fun _ => ()) (fun p => (.drop (.drop Sub.nil)))))))))
    (by first | (unfold m_worked; dsimp only [id]; done) | (unfold m_worked; dsimp only [id]; rfl) | rfl)
abbrev n_late_by : List Str := ["orders", "ends", "at", "order"]
theorem sc_late_by : FnScope n_late_by ["orders", "ends"] (defScope s_late_by) := ⟨rfl, rfl, rfl, by decide +kernel, rfl, by decide +kernel, by decide +kernel⟩
abbrev sp_late_by (K : Fg) : Sp := spP K (fun a : (List (Int × Int × Int)) × (List (Option Int)) × Unit => [.st none (List (Int × Int × Int)) (it (eL (eT3 eI eI eI))) a.1, .st none (List (Option Int)) (it (eL (eO eI nnI))) a.2.1]) (it eI) (fun a => m_late_by a.1 a.2.1)
set_option maxHeartbeats 0 in
theorem ok_late_by (fa : Fa K mg) : FnOk P w K mg base CX0 1 fa.f_late_by fa.fd_late_by ["orders", "ends"] (sp_late_by K) := by
  refine fnP fa.F_late_by sc_late_by 2 rfl (fun _ => rfl) fun cdv A' outer s H E hr => ?_
  have nd := sc_late_by.nd
  have hu := hr.units
  have hu5 : (A'.deeper (envOfC "late_by" (defScope s_late_by) s.heap.objs.size fa.f_late_by cdv)).units + 65 < cLine := by have := hr.un; omega
  rintro ⟨a_orders, a_ends, _⟩
  exact lb_use (env := [.st none (List (Int × Int × Int)) (it (eL (eT3 eI eI eI))) a_orders, .st none (List (Option Int)) (it (eL (eO eI nnI))) a_ends, .un, .un])
    (lb_ret (lx_maxI rfl lm_ow.w fa.z_max (lo_of (lx_lc (envT := (fun t203 : Unit => [.st none (List (Int × Int × Int)) (it (eL (eT3 eI eI eI))) a_orders, .st none (List (Option Int)) (it (eL (eO eI nnI))) a_ends, .un, .un])) rfl nd (blkOk_by (N := n_late_by) (sc := defScope s_late_by) (own := [("at", 2), ("order", 3)]) (by decide +kernel)) (li_enum (by rfl) fa.z_enumerate lm_sh.w (lx_var 0 cp_it rfl)) (fun p202 => ()) (fun p202 => (Sub.refl _)) (by intro t i s hm he; simp at hm; rcases hm with rfl | rfl <;> (have e := Option.some.inj he; exact e.symm)) (fun _ _ _ _ _ t203 => (lg_tup (E := (eT2 eI (eT3 eI eI eI))) (lgs_cons (lg_name 2 nd) (fun _ => (lgs_cons (lg_name 3 nd) (fun _ => lgs_nil)))) (fun x => (x.1, x.2, ())) (fun a : Int × (Int × Int × Int) × Unit => [eI.enc (a.1), (eT3 eI eI eI).enc (a.2.1)]) (fun _ => (.cons (.cons .nil))) (fun _ => rfl) rfl (fun _ => rfl))) (fun _ _ _ _ _ t203 x204 => ltl_nil) (fun _ _ _ _ _ t203 x204 p205 => (lx_sub (lx_cast (E' := eI) (lx_ix lm_sh.w (lo_of (lx_var 1 cp_it rfl)) (fun p206 => (lx_var 2 cp_it rfl)) (fun _ _ => trivial)) id (fun a b h => by have h : a = some b := h; subst h; rfl)) (fun p208 => (lx_part part3_2 (lx_var 3 cp_it rfl))))) (fun t203 x204 p205 p210 => ()) (fun t203 x204 p205 p210 => by exact (.keep (.keep (.drop (.drop Sub.nil))))) (fun t203 x204 p205 => ()) (fun t203 x204 p205 => by exact (.keep (.keep (.drop (.drop Sub.nil))))))) (fun _ => trivial)) (fun _ => ()) (fun p => (.drop (.drop (.keep (.keep Sub.nil))))))
    (by first | (unfold m_late_by; dsimp only [id]; done) | (unfold m_late_by; dsimp only [id]; rfl) | rfl)
abbrev n_held_by : List Str := ["orders", "members", "come", "at"]
theorem sc_held_by : FnScope n_held_by ["orders", "members"] (defScope s_held_by) := ⟨rfl, rfl, rfl, by decide +kernel, rfl, by decide +kernel, by decide +kernel⟩
abbrev sp_held_by (K : Fg) : Sp := spP K (fun a : (List (Int × Int × Int)) × (List Int) × Unit => [.st none (List (Int × Int × Int)) (it (eL (eT3 eI eI eI))) a.1, .st none (List Int) (it (eL eI)) a.2.1]) (it eI) (fun a => m_held_by a.1 a.2.1)
set_option maxHeartbeats 0 in
theorem ok_held_by (fa : Fa K mg) : FnOk P w K mg base CX0 1 fa.f_held_by fa.fd_held_by ["orders", "members"] (sp_held_by K) := by
  refine fnP fa.F_held_by sc_held_by 2 rfl (fun _ => rfl) fun cdv A' outer s H E hr => ?_
  have nd := sc_held_by.nd
  have hu := hr.units
  have hu5 : (A'.deeper (envOfC "held_by" (defScope s_held_by) s.heap.objs.size fa.f_held_by cdv)).units + 65 < cLine := by have := hr.un; omega
  rintro ⟨a_orders, a_members, _⟩
  exact lb_use (env := [.st none (List (Int × Int × Int)) (it (eL (eT3 eI eI eI))) a_orders, .st none (List Int) (it (eL eI)) a_members, .un, .un])
    (lb_set 2 nd (lx_minI rfl lm_ow.w fa.z_min (lo_of (lx_lc (envT := (fun t216 : Unit => [.st none (List (Int × Int × Int)) (it (eL (eT3 eI eI eI))) a_orders, .st none (List Int) (it (eL eI)) a_members, .un, .un])) rfl nd (blkOk_by (N := n_held_by) (sc := defScope s_held_by) (own := [("at", 3)]) (by decide +kernel)) (li_list lm_sh.w (lx_var 1 cp_it rfl)) (fun p215 => ()) (fun p215 => (Sub.refl _)) (by intro t i s hm he; simp at hm; subst hm; (have e := Option.some.inj he; exact e.symm)) (fun _ _ _ _ _ t216 => (lg_name 3 nd)) (fun _ _ _ _ _ t216 x217 => ltl_nil) (fun _ _ _ _ _ t216 x217 p218 => (lx_part part3_0 (lx_ix lm_sh.w (lo_of (lx_var 0 cp_it rfl)) (fun p219 => (lx_var 3 cp_it rfl)) (fun _ _ => trivial)))) (fun t216 x217 p218 p221 => ()) (fun t216 x217 p218 p221 => by exact (.keep (.keep (.keep (.drop Sub.nil))))) (fun t216 x217 p218 => ()) (fun t216 x217 p218 => by exact (.keep (.keep (.keep (.drop Sub.nil))))))) (fun _ => trivial)) (fun v_come_226 p227 => by exact (lb_ret (lx_sub (lx_add (lx_var 2 cp_it rfl) (fun p228 => (lx_sum rfl lm_ow.w fa.z_sum (lo_of (lx_lc (envT := (fun t230 : Unit => [.st none (List (Int × Int × Int)) (it (eL (eT3 eI eI eI))) a_orders, .st none (List Int) (it (eL eI)) a_members, .st none Int (it eI) v_come_226, .un])) rfl nd (blkOk_by (N := n_held_by) (sc := defScope s_held_by) (own := [("at", 3)]) (by decide +kernel)) (li_list lm_sh.w (lx_var 1 cp_it rfl)) (fun p229 => ()) (fun p229 => (Sub.refl _)) (by intro t i s hm he; simp at hm; subst hm; (have e := Option.some.inj he; exact e.symm)) (fun _ _ _ _ _ t230 => (lg_name 3 nd)) (fun _ _ _ _ _ t230 x231 => ltl_nil) (fun _ _ _ _ _ t230 x231 p232 => (lx_part part3_1 (lx_ix lm_sh.w (lo_of (lx_var 0 cp_it rfl)) (fun p233 => (lx_var 3 cp_it rfl)) (fun _ _ => trivial)))) (fun t230 x231 p232 p235 => ()) (fun t230 x231 p232 p235 => by exact (.keep (.keep (.keep (.drop Sub.nil))))) (fun t230 x231 p232 => ()) (fun t230 x231 p232 => by exact (.keep (.keep (.keep (.drop Sub.nil))))))) (fun _ => trivial)))) (fun p239 => (lx_maxI rfl lm_ow.w fa.z_max (lo_of (lx_lc (envT := (fun t241 : Unit => [.st none (List (Int × Int × Int)) (it (eL (eT3 eI eI eI))) a_orders, .st none (List Int) (it (eL eI)) a_members, .st none Int (it eI) v_come_226, .un])) rfl nd (blkOk_by (N := n_held_by) (sc := defScope s_held_by) (own := [("at", 3)]) (by decide +kernel)) (li_list lm_sh.w (lx_var 1 cp_it rfl)) (fun p240 => ()) (fun p240 => (Sub.refl _)) (by intro t i s hm he; simp at hm; subst hm; (have e := Option.some.inj he; exact e.symm)) (fun _ _ _ _ _ t241 => (lg_name 3 nd)) (fun _ _ _ _ _ t241 x242 => ltl_nil) (fun _ _ _ _ _ t241 x242 p243 => (lx_part part3_2 (lx_ix lm_sh.w (lo_of (lx_var 0 cp_it rfl)) (fun p244 => (lx_var 3 cp_it rfl)) (fun _ _ => trivial)))) (fun t241 x242 p243 p246 => ()) (fun t241 x242 p243 p246 => by exact (.keep (.keep (.keep (.drop Sub.nil))))) (fun t241 x242 p243 => ()) (fun t241 x242 p243 => by exact (.keep (.keep (.keep (.drop Sub.nil))))))) (fun _ => trivial)))) (fun _ => ()) (fun p => (.drop (.drop (.drop (.keep Sub.nil))))))))
    (by first | (unfold m_held_by; dsimp only [id]; done) | (unfold m_held_by; dsimp only [id]; rfl) | rfl)
abbrev n_critical : List Str := ["orders", "best", "come", "order", "due", "members", "at"]
theorem sc_critical : FnScope n_critical ["orders"] (defScope s_critical) := ⟨rfl, rfl, rfl, by decide +kernel, rfl, by decide +kernel, by decide +kernel⟩
abbrev sp_critical (K : Fg) : Sp := spP K (fun a : (List (Int × Int × Int)) × Unit => [.st none (List (Int × Int × Int)) (it (eL (eT3 eI eI eI))) a.1]) (it (eL eI)) (fun a => m_critical a.1)
set_option maxHeartbeats 0 in
theorem ok_critical (fa : Fa K mg) : FnOk P w K mg base CX0 2 fa.f_critical fa.fd_critical ["orders"] (sp_critical K) := by
  refine fnP fa.F_critical sc_critical 6 rfl (fun _ => rfl) fun cdv A' outer s H E hr => ?_
  have nd := sc_critical.nd
  have hu := hr.units
  have hu5 : (A'.deeper (envOfC "critical" (defScope s_critical) s.heap.objs.size fa.f_critical cdv)).units + 65 < cLine := by have := hr.un; omega
  rintro ⟨a_orders, _⟩
  exact lb_use (env := [.st none (List (Int × Int × Int)) (it (eL (eT3 eI eI eI))) a_orders, .un, .un, .un, .un, .un, .un])
    (lb_set 1 nd (lx_as (E' := (eO (eT2 eI (eL eI)) nnT2)) lx_non (fun _ => none) (fun _ => rfl)) (fun v_best_251 p252 => (lb_for (envT := (fun t262 : (Option (Int × (List Int))) => [.st none (List (Int × Int × Int)) (it (eL (eT3 eI eI eI))) a_orders, .st none (Option (Int × (List Int))) (it (eO (eT2 eI (eL eI)) nnT2)) t262, .un, .un, .un, .un, .un])) PassesOwn.never rfl (li_list lm_ow.w (lx_usort rfl lm_ow.w fa.z_sorted fa.z_set (lo_of (lx_lc (envT := (fun t254 : Unit => [.st none (List (Int × Int × Int)) (it (eL (eT3 eI eI eI))) a_orders, .st none (Option (Int × (List Int))) (it (eO (eT2 eI (eL eI)) nnT2)) v_best_251, .un, .un, .un, .un, .un])) rfl nd (blkOk_by (N := n_critical) (sc := defScope s_critical) (own := [("order", 3)]) (by decide +kernel)) (li_list lm_sh.w (lx_var 0 cp_it rfl)) (fun p253 => ()) (fun p253 => (Sub.refl _)) (by intro t i s hm he; simp at hm; subst hm; (have e := Option.some.inj he; exact e.symm)) (fun _ _ _ _ _ t254 => (lg_name 3 nd)) (fun _ _ _ _ _ t254 x255 => ltl_nil) (fun _ _ _ _ _ t254 x255 p256 => (lx_part part3_0 (lx_var 3 cp_it rfl))) (fun t254 x255 p256 p257 => ()) (fun t254 x255 p256 p257 => by exact (.keep (.keep (.keep (.drop (.keep (.keep (.keep Sub.nil)))))))) (fun t254 x255 p256 => ()) (fun t254 x255 p256 => by exact (.keep (.keep (.keep (.drop (.keep (.keep (.keep Sub.nil)))))))))) (fun _ => trivial))) (fun p261 => v_best_251) (fun p261 => (Sub.refl _)) (fun t262 => (lg_name 2 nd)) (fun x263 t262 kc264 kb265 => (lb_for (envT := (fun t275 : (Option (Int × (List Int))) => [.st none (List (Int × Int × Int)) (it (eL (eT3 eI eI eI))) a_orders, .st none (Option (Int × (List Int))) (it (eO (eT2 eI (eL eI)) nnT2)) t275, .st none Int (it eI) x263, .un, .un, .un, .un])) PassesOwn.never rfl (li_list lm_ow.w (lx_usort rfl lm_ow.w fa.z_sorted fa.z_set (lo_of (lx_lc (envT := (fun t267 : Unit => [.st none (List (Int × Int × Int)) (it (eL (eT3 eI eI eI))) a_orders, .st none (Option (Int × (List Int))) (it (eO (eT2 eI (eL eI)) nnT2)) t262, .st none Int (it eI) x263, .un, .un, .un, .un])) rfl nd (blkOk_by (N := n_critical) (sc := defScope s_critical) (own := [("order", 3)]) (by decide +kernel)) (li_list lm_sh.w (lx_var 0 cp_it rfl)) (fun p266 => ()) (fun p266 => (Sub.refl _)) (by intro t i s hm he; simp at hm; subst hm; (have e := Option.some.inj he; exact e.symm)) (fun _ _ _ _ _ t267 => (lg_name 3 nd)) (fun _ _ _ _ _ t267 x268 => ltl_nil) (fun _ _ _ _ _ t267 x268 p269 => (lx_part part3_2 (lx_var 3 cp_it rfl))) (fun t267 x268 p269 p270 => ()) (fun t267 x268 p269 p270 => by exact (.keep (.keep (.keep (.drop (.keep (.keep (.keep Sub.nil)))))))) (fun t267 x268 p269 => ()) (fun t267 x268 p269 => by exact (.keep (.keep (.keep (.drop (.keep (.keep (.keep Sub.nil)))))))))) (fun _ => trivial))) (fun p274 => t262) (fun p274 => (Sub.refl _)) (fun t275 => (lg_name 4 nd)) (fun x276 t275 kc277 kb278 => (lb_setLc (envT := (fun t280 : Unit => [.st none (List (Int × Int × Int)) (it (eL (eT3 eI eI eI))) a_orders, .st none (Option (Int × (List Int))) (it (eO (eT2 eI (eL eI)) nnT2)) t275, .st none Int (it eI) x263, .un, .st none Int (it eI) x276, .un, .un])) rfl nd (blkOk_by (N := n_critical) (sc := defScope s_critical) (own := [("at", 6), ("order", 3)]) (by decide +kernel)) 5 (li_enum (by rfl) fa.z_enumerate lm_sh.w (lx_var 0 cp_it rfl)) (fun p279 => ()) (fun p279 => (Sub.refl _)) (by intro t i s hm he; simp at hm; rcases hm with rfl | rfl <;> (have e := Option.some.inj he; exact e.symm)) (fun _ _ _ _ _ t280 => (lg_tup (E := (eT2 eI (eT3 eI eI eI))) (lgs_cons (lg_name 6 nd) (fun _ => (lgs_cons (lg_name 3 nd) (fun _ => lgs_nil)))) (fun x => (x.1, x.2, ())) (fun a : Int × (Int × Int × Int) × Unit => [eI.enc (a.1), (eT3 eI eI eI).enc (a.2.1)]) (fun _ => (.cons (.cons .nil))) (fun _ => rfl) rfl (fun _ => rfl))) (fun _ _ _ _ _ t280 x281 => (ltl_one (lt_cut (lt_w (lw_and (lt_cmp (lc_ge (lx_part part3_0 (lx_var 3 cp_it rfl)) (fun p282 => (lx_var 2 cp_it rfl))) (nomark _)) (fun p283 => (lw_and1 (lt_cmp (lc_le (lx_part part3_2 (lx_var 3 cp_it rfl)) (fun p284 => (lx_var 4 cp_it rfl))) (nomark _)))) (fun p283 _ => Sub.refl _))) (fun _ => rfl)))) (fun _ _ _ _ _ t280 x281 p286 => (lx_var 6 cp_it rfl)) (fun t280 x281 p286 p287 => ()) (fun t280 x281 p286 p287 => by exact (.keep (.keep (.keep (.drop (.keep (.keep (.drop Sub.nil)))))))) (fun t280 x281 p286 => ()) (fun t280 x281 p286 => by exact (.keep (.keep (.keep (.drop (.keep (.keep (.drop Sub.nil)))))))) (fun v_members_291 p292 => (lb_frz 5 (fz_ls fz_it) rfl (lb_if (env1 := (fun j310 : (Option (Int × (List Int))) => [.st none (List (Int × Int × Int)) (it (eL (eT3 eI eI eI))) a_orders, .st none (Option (Int × (List Int))) (it (eO (eT2 eI (eL eI)) nnT2)) j310, .st none Int (it eI) x263, .un, .st none Int (it eI) x276, .st none (List Int) (it (eL eI)) v_members_291, .un])) (lt_cut (lt_w (lw_and (lt_tru lm_sh.w (lo_of (lx_var 5 cp_it rfl)) (fun _ => trivial)) (fun p300 => (lw_and1 (lt_cut (lt_w (lw_or (lt_cmp (lc_isN (lx_var 1 cp_it rfl)) (nomark _)) (fun p301 => (lw_or1 (lt_cmp (lc_gt (lx_call (ok_held_by fa) (hr.mono (by decide)) fa.g_held_by fa.F_held_by.kp fa.b_held_by (fun _ => (.cons cp_it (.cons cp_it .nil))) (la_cons (lx_var 0 cp_it rfl) (fun p302 => (la_cons (lx_var 5 cp_it rfl) (fun p303 => la_nil))))) (fun p305 => (lx_part part2_0 (lx_cast (E' := (eT2 eI (eL eI))) (lx_var 1 cp_it rfl) id (fun a b h => by have h : a = some b := h; subst h; rfl))))) (nomark _)))) (fun p301 _ => Sub.refl _))) (fun _ => rfl)))) (fun p300 _ => Sub.refl _))) (fun _ => rfl)) (fun p309 => (lb_set 1 nd (lx_some (E := (eT2 eI (eL eI))) (lx_tup (la_cons (lx_call (ok_held_by fa) (hr.mono (by decide)) fa.g_held_by fa.F_held_by.kp fa.b_held_by (fun _ => (.cons cp_it (.cons cp_it .nil))) (la_cons (lx_var 0 cp_it rfl) (fun p312 => (la_cons (lx_var 5 cp_it rfl) (fun p313 => la_nil))))) (fun p315 => (la_cons (lx_var 5 cp_it rfl) (fun p316 => la_nil)))) (eT2 eI (eL eI)) (fun a : Int × (List Int) × Unit => (a.1, a.2.1)) (fun a => [eI.enc a.1, (eL eI).enc a.2.1]) (fun _ => (.cons (.cons .nil))) (fun _ => rfl))) (fun v_best_317 p318 => (lb_end v_best_317 (Sub.refl _))))) (fun p309 => (lb_end t275 (Sub.refl _))) (fun j310 => (lb_end j310 (.keep (.keep (.keep (.keep (.drop (.drop (.keep Sub.nil)))))))))))) (sw_true rfl rfl rfl (by decide +kernel)))) (fun t322 => (lb_end t322 (.keep (.keep (.drop (.keep (.keep (.keep (.keep Sub.nil))))))))))) (fun t324 => (lb_ret (lx_part part2_1 (lx_cast (E' := (eT2 eI (eL eI))) (lx_var 1 cp_it rfl) id (fun a b h => by have h : a = some b := h; subst h; rfl))) (fun _ => ()) (fun p => (.drop (.drop (.keep (.keep (.keep (.keep (.keep Sub.nil)))))))))))))
    (by first | (unfold m_critical; dsimp only [id]; done) | (unfold m_critical; dsimp only [id]; rfl) | rfl)
abbrev n_days : List Str := ["orders", "pieces", "ends"]
theorem sc_days : FnScope n_days ["orders"] (defScope s_days) := ⟨rfl, rfl, rfl, by decide +kernel, rfl, by decide +kernel, by decide +kernel⟩
abbrev sp_days (K : Fg) (fu : Nat) : Sp := spP K (fun a : (List (Int × Int × Int)) × Unit => [.st none (List (Int × Int × Int)) (it (eL (eT3 eI eI eI))) a.1]) (it (eT3 (eO eI nnI) (eL (eT3 eI eI eI)) (eL eI))) (fun a => m_days fu a.1)
set_option maxHeartbeats 0 in
theorem ok_days (fa : Fa K mg) (fu : Nat) : FnOk P w K mg base CX0 4 fa.f_days fa.fd_days ["orders"] (sp_days K fu) := by
  refine fnP fa.F_days sc_days 2 rfl (fun _ => rfl) fun cdv A' outer s H E hr => ?_
  have nd := sc_days.nd
  have hu := hr.units
  have hu5 : (A'.deeper (envOfC "days" (defScope s_days) s.heap.objs.size fa.f_days cdv)).units + 65 < cLine := by have := hr.un; omega
  rintro ⟨a_orders, _⟩
  exact lb_use (env := [.st none (List (Int × Int × Int)) (it (eL (eT3 eI eI eI))) a_orders, .un, .un])
    (lb_ifr (lt_not (lt_tru lm_sh.w (lo_of (lx_var 0 cp_it rfl)) (fun _ => trivial))) (fun p327 => (lb_ret (lx_tup (la_cons (lx_as (E' := (eO eI nnI)) lx_non (fun _ => none) (fun _ => rfl)) (fun p328 => (la_cons (lx_sh (fz_ls fz_it) (lx_list la_nil (eT3 eI eI eI) (fun _ => []) (fun _ => .nil))) (fun p329 => (la_cons (lx_sh (fz_ls fz_it) (lx_list la_nil eI (fun _ => []) (fun _ => .nil))) (fun p330 => la_nil)))))) (eT3 (eO eI nnI) (eL (eT3 eI eI eI)) (eL eI)) (fun a : (Option Int) × (List (Int × Int × Int)) × (List Int) × Unit => (a.1, a.2.1, a.2.2.1)) (fun a => [(eO eI nnI).enc a.1, (eL (eT3 eI eI eI)).enc a.2.1, (eL eI).enc a.2.2.1]) (fun _ => (.cons (.cons (.cons .nil)))) (fun _ => rfl)) (fun _ => ()) (fun p => (.drop (.keep (.keep Sub.nil)))))) (fun p327 => (lb_asg (lx_call (ok_worked fa fu) (hr.mono (by decide)) fa.g_worked fa.F_worked.kp fa.b_worked (fun _ => (.cons cp_it .nil)) (la_cons (lx_var 0 cp_it rfl) (fun p331 => la_nil))) (fun p334 => (lg_tup (E := (eT2 (eL (eT3 eI eI eI)) (eL (eO eI nnI)))) (lgs_cons (lg_name 1 nd) (fun _ => (lgs_cons (lg_name 2 nd) (fun _ => lgs_nil)))) (fun x => (x.1, x.2, ())) (fun a : (List (Int × Int × Int)) × (List (Option Int)) × Unit => [(eL (eT3 eI eI eI)).enc (a.1), (eL (eO eI nnI)).enc (a.2.1)]) (fun _ => (.cons (.cons .nil))) (fun _ => rfl) rfl (fun _ => rfl))) (fun x333 p334 => (lb_ret (lx_tup (la_cons (lx_some (E := eI) (lx_call (ok_late_by fa) (hr.mono (by decide)) fa.g_late_by fa.F_late_by.kp fa.b_late_by (fun _ => (.cons cp_it (.cons cp_it .nil))) (la_cons (lx_var 0 cp_it rfl) (fun p335 => (la_cons (lx_var 2 cp_it rfl) (fun p336 => la_nil)))))) (fun p338 => (la_cons (lx_var 1 cp_it rfl) (fun p339 => (la_cons (lx_call (ok_critical fa) (hr.mono (by decide)) fa.g_critical fa.F_critical.kp fa.b_critical (fun _ => (.cons cp_it .nil)) (la_cons (lx_var 0 cp_it rfl) (fun p340 => la_nil))) (fun p342 => la_nil)))))) (eT3 (eO eI nnI) (eL (eT3 eI eI eI)) (eL eI)) (fun a : (Option Int) × (List (Int × Int × Int)) × (List Int) × Unit => (a.1, a.2.1, a.2.2.1)) (fun a => [(eO eI nnI).enc a.1, (eL (eT3 eI eI eI)).enc a.2.1, (eL eI).enc a.2.2.1]) (fun _ => (.cons (.cons (.cons .nil)))) (fun _ => rfl)) (fun _ => ()) (fun p => (.drop (.drop (.drop Sub.nil)))))))))
    (by first | (unfold m_days; dsimp only [id]; done) | (unfold m_days; dsimp only [id]; rfl) | rfl)
abbrev n_pieces_fault : List Str := ["orders", "pieces", "done", "_", "before", "at", "piece", "start", "end", "order"]
theorem sc_pieces_fault : FnScope n_pieces_fault ["orders", "pieces"] (defScope s_pieces_fault) := ⟨rfl, rfl, rfl, by decide +kernel, rfl, by decide +kernel, by decide +kernel⟩
abbrev sp_pieces_fault (K : Fg) : Sp := spP K (fun a : (List (Int × Int × Int)) × (List (Int × Int × Int)) × Unit => [.st none (List (Int × Int × Int)) (it (eL (eT3 eI eI eI))) a.1, .st none (List (Int × Int × Int)) (it (eL (eT3 eI eI eI))) a.2.1]) (it eD) (fun a => m_pieces_fault a.1 a.2.1)
set_option maxHeartbeats 0 in
theorem ok_pieces_fault (fa : Fa K mg) : FnOk P w K mg base CX0 1 fa.f_pieces_fault fa.fd_pieces_fault ["orders", "pieces"] (sp_pieces_fault K) := by
  refine fnP fa.F_pieces_fault sc_pieces_fault 8 rfl (fun _ => rfl) fun cdv A' outer s H E hr => ?_
  have nd := sc_pieces_fault.nd
  have hu := hr.units
  have hu5 : (A'.deeper (envOfC "pieces_fault" (defScope s_pieces_fault) s.heap.objs.size fa.f_pieces_fault cdv)).units + 65 < cLine := by have := hr.un; omega
  rintro ⟨a_orders, a_pieces, _⟩
  exact lb_use (env := [.st none (List (Int × Int × Int)) (it (eL (eT3 eI eI eI))) a_orders, .st none (List (Int × Int × Int)) (it (eL (eT3 eI eI eI))) a_pieces, .un, .un, .un, .un, .un, .un, .un, .un])
    (lb_setLc (envT := (fun t344 : Unit => [.st none (List (Int × Int × Int)) (it (eL (eT3 eI eI eI))) a_orders, .st none (List (Int × Int × Int)) (it (eL (eT3 eI eI eI))) a_pieces, .un, .un, .un, .un, .un, .un, .un, .un])) rfl nd (blkOk_by (N := n_pieces_fault) (sc := defScope s_pieces_fault) (own := [("_", 3)]) (by decide +kernel)) 2 (li_list lm_sh.w (lx_var 0 cp_it rfl)) (fun p343 => ()) (fun p343 => (Sub.refl _)) (by intro t i s hm he; simp at hm; subst hm; (have e := Option.some.inj he; exact e.symm)) (fun _ _ _ _ _ t344 => (lg_name 3 nd)) (fun _ _ _ _ _ t344 x345 => ltl_nil) (fun _ _ _ _ _ t344 x345 p346 => lx_int) (fun t344 x345 p346 p347 => ()) (fun t344 x345 p346 p347 => by exact (.keep (.keep (.keep (.drop (.keep (.keep (.keep (.keep (.keep (.keep Sub.nil))))))))))) (fun t344 x345 p346 => ()) (fun t344 x345 p346 => by exact (.keep (.keep (.keep (.drop (.keep (.keep (.keep (.keep (.keep (.keep Sub.nil))))))))))) (fun v_done_351 p352 => (lb_set 4 nd (lx_as (E' := (eO eI nnI)) lx_non (fun _ => none) (fun _ => rfl)) (fun v_before_353 p354 => (lb_for (envT := (fun t356 : ((List Int) × (Option Int)) => [.st none (List (Int × Int × Int)) (it (eL (eT3 eI eI eI))) a_orders, .st none (List (Int × Int × Int)) (it (eL (eT3 eI eI eI))) a_pieces, .st none (List Int) (ls (it eI)) t356.1, .un, .st none (Option Int) (it (eO eI nnI)) t356.2, .un, .un, .un, .un, .un])) PassesOwn.never rfl (li_enum (by rfl) fa.z_enumerate lm_sh.w (lx_var 1 cp_it rfl)) (fun p355 => (v_done_351, v_before_353)) (fun p355 => (Sub.refl _)) (fun t356 => (lg_tup (E := (eT2 eI (eT3 eI eI eI))) (lgs_cons (lg_name 5 nd) (fun _ => (lgs_cons (lg_name 6 nd) (fun _ => lgs_nil)))) (fun x => (x.1, x.2, ())) (fun a : Int × (Int × Int × Int) × Unit => [eI.enc (a.1), (eT3 eI eI eI).enc (a.2.1)]) (fun _ => (.cons (.cons .nil))) (fun _ => rfl) rfl (fun _ => rfl))) (fun x357 t356 kc358 kb359 => (lb_asg (lx_var 6 cp_it rfl) (fun p361 => (lg_tup (E := (eT3 eI eI eI)) (lgs_cons (lg_name 7 nd) (fun _ => (lgs_cons (lg_name 8 nd) (fun _ => (lgs_cons (lg_name 9 nd) (fun _ => lgs_nil)))))) (fun x => (x.1, x.2.1, x.2.2, ())) (fun a : Int × Int × Int × Unit => [eI.enc (a.1), eI.enc (a.2.1), eI.enc (a.2.2.1)]) (fun _ => (.cons (.cons (.cons .nil)))) (fun _ => rfl) rfl (fun _ => rfl))) (fun x360 p361 => (lb_ifr (lt_cut (lt_w (lw_or (lt_not (lt_cut (lt_chain coLe coLt lx_int (fun p362 => (lx_var 9 cp_it rfl)) (fun p362 p363 => (lx_len lm_sh.w fa.z_len (lo_of (lx_var 0 cp_it rfl)) (fun _ => trivial))) (fun p362 p363 p364 => Sub.refl _)) (fun _ => rfl))) (fun p366 => (lw_or (lt_cmp (lc_ge (lx_var 7 cp_it rfl) (fun p367 => (lx_var 8 cp_it rfl))) (nomark _)) (fun p368 => (lw_or1 (lt_cut (lt_w (lw_and (lt_cmp (lc_notN (lx_var 4 cp_it rfl)) (nomark _)) (fun p369 => (lw_and1 (lt_cmp (lc_lt (lx_var 7 cp_it rfl) (fun p370 => (lx_cast (E' := eI) (lx_var 4 cp_it rfl) id (fun a b h => by have h : a = some b := h; subst h; rfl)))) (nomark _)))) (fun p369 _ => Sub.refl _))) (fun _ => rfl)))) (fun p368 _ => Sub.refl _))) (fun p366 _ => Sub.refl _))) (fun _ => rfl)) (fun p374 => (lb_ret (lx_tup (la_cons lx_str (fun p375 => (la_cons (lx_var 5 cp_it rfl) (fun p376 => la_nil)))) eD (fun a : Str × Int × Unit => PyData.tuple [eS.enc a.1, eI.enc a.2.1]) (fun a => [eS.enc a.1, eI.enc a.2.1]) (fun _ => (.cons (.cons .nil))) (fun _ => rfl)) (fun _ => ()) (fun p => (.drop (.drop (.drop (.keep (.drop (.drop (.drop (.drop (.drop (.drop Sub.nil))))))))))))) (fun p374 => (lb_ifr (lt_cmp (lc_lt (lx_var 7 cp_it rfl) (fun p377 => (lx_part part3_0 (lx_ix lm_sh.w (lo_of (lx_var 0 cp_it rfl)) (fun p378 => (lx_var 9 cp_it rfl)) (fun _ _ => trivial))))) (nomark _)) (fun p380 => (lb_ret (lx_tup (la_cons lx_str (fun p381 => (la_cons (lx_var 5 cp_it rfl) (fun p382 => la_nil)))) eD (fun a : Str × Int × Unit => PyData.tuple [eS.enc a.1, eI.enc a.2.1]) (fun a => [eS.enc a.1, eI.enc a.2.1]) (fun _ => (.cons (.cons .nil))) (fun _ => rfl)) (fun _ => ()) (fun p => (.drop (.drop (.drop (.keep (.drop (.drop (.drop (.drop (.drop (.drop Sub.nil))))))))))))) (fun p380 => (lb_setix 2 (lx_sub (lx_add (lx_ix lm_ow.w (lo_var 2 rfl) (fun p385 => (lx_var 9 cp_it rfl)) (fun _ _ => rfl)) (fun p387 => (lx_var 8 cp_it rfl))) (fun p388 => (lx_var 7 cp_it rfl))) (fun _ => rfl) (fun y389 p390 => (lx_var 9 cp_it rfl)) (fun _ _ _ => rfl) (fun y389 p390 j391 p392 z393 => (lb_set 4 nd (lx_some (E := eI) (lx_var 8 cp_it rfl)) (fun v_before_394 p395 => (lb_end (z393, v_before_394) (.keep (.keep (.keep (.keep (.keep (.drop (.drop (.drop (.drop (.drop Sub.nil)))))))))))))))))))))) (fun t401 => (lb_for (envT := (fun t403 : Unit => [.st none (List (Int × Int × Int)) (it (eL (eT3 eI eI eI))) a_orders, .st none (List (Int × Int × Int)) (it (eL (eT3 eI eI eI))) a_pieces, .st none (List Int) (ls (it eI)) t401.1, .un, .st none (Option Int) (it (eO eI nnI)) t401.2, .un, .un, .un, .un, .un])) PassesOwn.never rfl (li_enum (by rfl) fa.z_enumerate lm_sh.w (lx_var 0 cp_it rfl)) (fun p402 => ()) (fun p402 => (Sub.refl _)) (fun t403 => (lg_tup (E := (eT2 eI (eT3 eI eI eI))) (lgs_cons (lg_name 5 nd) (fun _ => (lgs_cons (lg_name 9 nd) (fun _ => lgs_nil)))) (fun x => (x.1, x.2, ())) (fun a : Int × (Int × Int × Int) × Unit => [eI.enc (a.1), (eT3 eI eI eI).enc (a.2.1)]) (fun _ => (.cons (.cons .nil))) (fun _ => rfl) rfl (fun _ => rfl))) (fun x404 t403 kc405 kb406 => (lb_ifr (lt_cmp (lc_neI (lx_ix lm_ow.w (lo_var 2 rfl) (fun p407 => (lx_var 5 cp_it rfl)) (fun _ _ => rfl)) (fun p409 => (lx_part part3_1 (lx_var 9 cp_it rfl)))) (nomark _)) (fun p410 => (lb_ret (lx_tup (la_cons lx_str (fun p411 => (la_cons (lx_var 5 cp_it rfl) (fun p412 => la_nil)))) eD (fun a : Str × Int × Unit => PyData.tuple [eS.enc a.1, eI.enc a.2.1]) (fun a => [eS.enc a.1, eI.enc a.2.1]) (fun _ => (.cons (.cons .nil))) (fun _ => rfl)) (fun _ => ()) (fun p => (.drop (.drop (.drop (.keep (.drop (.drop (.keep (.keep (.keep (.drop Sub.nil))))))))))))) (fun p410 => (lb_end () (.keep (.keep (.keep (.keep (.keep (.drop (.keep (.keep (.keep (.drop Sub.nil)))))))))))))) (fun t413 => (lb_ret (lx_as (E' := eD) lx_non eN.enc (fun _ => rfl)) (fun _ => ()) (fun p => (.drop (.drop (.drop (.keep (.drop (.keep (.keep (.keep (.keep (.keep Sub.nil))))))))))))))))))) (sw_true rfl rfl rfl (by decide +kernel)))
    (by first | (unfold m_pieces_fault; dsimp only [id]; done) | (unfold m_pieces_fault; dsimp only [id]; rfl) | rfl)
abbrev n_ends_of : List Str := ["orders", "pieces", "ends", "order", "start", "end", "at"]
theorem sc_ends_of : FnScope n_ends_of ["orders", "pieces"] (defScope s_ends_of) := ⟨rfl, rfl, rfl, by decide +kernel, rfl, by decide +kernel, by decide +kernel⟩
abbrev sp_ends_of (K : Fg) : Sp := spP K (fun a : (List (Int × Int × Int)) × (List (Int × Int × Int)) × Unit => [.st none (List (Int × Int × Int)) (it (eL (eT3 eI eI eI))) a.1, .st none (List (Int × Int × Int)) (it (eL (eT3 eI eI eI))) a.2.1]) (it (eL (eO eI nnI))) (fun a => m_ends_of a.1 a.2.1)
set_option maxHeartbeats 0 in
theorem ok_ends_of (fa : Fa K mg) : FnOk P w K mg base CX0 1 fa.f_ends_of fa.fd_ends_of ["orders", "pieces"] (sp_ends_of K) := by
  refine fnP fa.F_ends_of sc_ends_of 5 rfl (fun _ => rfl) fun cdv A' outer s H E hr => ?_
  have nd := sc_ends_of.nd
  have hu := hr.units
  have hu5 : (A'.deeper (envOfC "ends_of" (defScope s_ends_of) s.heap.objs.size fa.f_ends_of cdv)).units + 65 < cLine := by have := hr.un; omega
  rintro ⟨a_orders, a_pieces, _⟩
  exact lb_use (env := [.st none (List (Int × Int × Int)) (it (eL (eT3 eI eI eI))) a_orders, .st none (List (Int × Int × Int)) (it (eL (eT3 eI eI eI))) a_pieces, .un, .un, .un, .un, .un])
    (lb_setLc (envT := (fun t417 : Unit => [.st none (List (Int × Int × Int)) (it (eL (eT3 eI eI eI))) a_orders, .st none (List (Int × Int × Int)) (it (eL (eT3 eI eI eI))) a_pieces, .un, .un, .un, .un, .un])) rfl nd (blkOk_by (N := n_ends_of) (sc := defScope s_ends_of) (own := [("order", 3)]) (by decide +kernel)) 2 (li_list lm_sh.w (lx_var 0 cp_it rfl)) (fun p416 => ()) (fun p416 => (Sub.refl _)) (by intro t i s hm he; simp at hm; subst hm; (have e := Option.some.inj he; exact e.symm)) (fun _ _ _ _ _ t417 => (lg_name 3 nd)) (fun _ _ _ _ _ t417 x418 => ltl_nil) (fun _ _ _ _ _ t417 x418 p419 => (lx_some (E := eI) (lx_part part3_0 (lx_var 3 cp_it rfl)))) (fun t417 x418 p419 p420 => ()) (fun t417 x418 p419 p420 => by exact (.keep (.keep (.keep (.drop (.keep (.keep (.keep Sub.nil)))))))) (fun t417 x418 p419 => ()) (fun t417 x418 p419 => by exact (.keep (.keep (.keep (.drop (.keep (.keep (.keep Sub.nil)))))))) (fun v_ends_424 p425 => (lb_for (envT := (fun t427 : (List (Option Int)) => [.st none (List (Int × Int × Int)) (it (eL (eT3 eI eI eI))) a_orders, .st none (List (Int × Int × Int)) (it (eL (eT3 eI eI eI))) a_pieces, .st none (List (Option Int)) (ls (it (eO eI nnI))) t427, .un, .un, .un, .un])) PassesOwn.never rfl (li_list lm_sh.w (lx_var 1 cp_it rfl)) (fun p426 => v_ends_424) (fun p426 => (Sub.refl _)) (fun t427 => (lg_tup (E := (eT3 eI eI eI)) (lgs_cons (lg_name 4 nd) (fun _ => (lgs_cons (lg_name 5 nd) (fun _ => (lgs_cons (lg_name 6 nd) (fun _ => lgs_nil)))))) (fun x => (x.1, x.2.1, x.2.2, ())) (fun a : Int × Int × Int × Unit => [eI.enc (a.1), eI.enc (a.2.1), eI.enc (a.2.2.1)]) (fun _ => (.cons (.cons (.cons .nil)))) (fun _ => rfl) rfl (fun _ => rfl))) (fun x428 t427 kc429 kb430 => (lb_setix 2 (lx_some (E := eI) (lx_var 5 cp_it rfl)) (fun _ => rfl) (fun y431 p432 => (lx_var 6 cp_it rfl)) (fun _ _ _ => rfl) (fun y431 p432 j433 p434 z435 => (lb_end z435 (.keep (.keep (.keep (.keep (.drop (.drop (.drop Sub.nil))))))))))) (fun t437 => (lb_ret (lx_frz 2 (fz_ls fz_it) rfl) (fun _ => ()) (fun p => (.drop (.drop (.drop (.keep (.keep (.keep (.keep Sub.nil)))))))))))) (sw_true rfl rfl rfl (by decide +kernel)))
    (by first | (unfold m_ends_of; dsimp only [id]; done) | (unfold m_ends_of; dsimp only [id]; rfl) | rfl)
abbrev n_days_fault : List Str := ["orders", "told", "lateness", "pieces", "members", "fault", "rising", "at", "member"]
theorem sc_days_fault : FnScope n_days_fault ["orders", "told"] (defScope s_days_fault) := ⟨rfl, rfl, rfl, by decide +kernel, rfl, by decide +kernel, by decide +kernel⟩
abbrev sp_days_fault (K : Fg) : Sp := spP K (fun a : (List (Int × Int × Int)) × ((Option Int) × (List (Int × Int × Int)) × (List Int)) × Unit => [.st none (List (Int × Int × Int)) (it (eL (eT3 eI eI eI))) a.1, .st none ((Option Int) × (List (Int × Int × Int)) × (List Int)) (it (eT3 (eO eI nnI) (eL (eT3 eI eI eI)) (eL eI))) a.2.1]) (it eD) (fun a => m_days_fault a.1 a.2.1)
set_option maxHeartbeats 0 in
theorem ok_days_fault (fa : Fa K mg) : FnOk P w K mg base CX0 2 fa.f_days_fault fa.fd_days_fault ["orders", "told"] (sp_days_fault K) := by
  refine fnP fa.F_days_fault sc_days_fault 7 rfl (fun _ => rfl) fun cdv A' outer s H E hr => ?_
  have nd := sc_days_fault.nd
  have hu := hr.units
  have hu5 : (A'.deeper (envOfC "days_fault" (defScope s_days_fault) s.heap.objs.size fa.f_days_fault cdv)).units + 65 < cLine := by have := hr.un; omega
  rintro ⟨a_orders, a_told, _⟩
  exact lb_use (env := [.st none (List (Int × Int × Int)) (it (eL (eT3 eI eI eI))) a_orders, .st none ((Option Int) × (List (Int × Int × Int)) × (List Int)) (it (eT3 (eO eI nnI) (eL (eT3 eI eI eI)) (eL eI))) a_told, .un, .un, .un, .un, .un, .un, .un])
    (lb_asg (lx_var 1 cp_it rfl) (fun p440 => (lg_tup (E := (eT3 (eO eI nnI) (eL (eT3 eI eI eI)) (eL eI))) (lgs_cons (lg_name 2 nd) (fun _ => (lgs_cons (lg_name 3 nd) (fun _ => (lgs_cons (lg_name 4 nd) (fun _ => lgs_nil)))))) (fun x => (x.1, x.2.1, x.2.2, ())) (fun a : (Option Int) × (List (Int × Int × Int)) × (List Int) × Unit => [(eO eI nnI).enc (a.1), (eL (eT3 eI eI eI)).enc (a.2.1), (eL eI).enc (a.2.2.1)]) (fun _ => (.cons (.cons (.cons .nil)))) (fun _ => rfl) rfl (fun _ => rfl))) (fun x439 p440 => (lb_ifr (lt_not (lt_tru lm_sh.w (lo_of (lx_var 0 cp_it rfl)) (fun _ => trivial))) (fun p441 => (lb_ret (lx_cut (lx_if (S := (it eD)) (lt_cmp (lc_eqC hu dv_it dv_it (lo_of (lx_var 1 cp_it rfl)) (fun p442 => (lo_of (lx_tup (la_cons (lx_as (E' := (eO eI nnI)) lx_non (fun _ => none) (fun _ => rfl)) (fun p443 => (la_cons (lx_sh (fz_ls fz_it) (lx_list la_nil (eT3 eI eI eI) (fun _ => []) (fun _ => .nil))) (fun p444 => (la_cons (lx_sh (fz_ls fz_it) (lx_list la_nil eI (fun _ => []) (fun _ => .nil))) (fun p445 => la_nil)))))) (eT3 (eO eI nnI) (eL (eT3 eI eI eI)) (eL eI)) (fun a : (Option Int) × (List (Int × Int × Int)) × (List Int) × Unit => (a.1, a.2.1, a.2.2.1)) (fun a => [(eO eI nnI).enc a.1, (eL (eT3 eI eI eI)).enc a.2.1, (eL eI).enc a.2.2.1]) (fun _ => (.cons (.cons (.cons .nil)))) (fun _ => rfl)))) (fun _ _ => trivial) (fun _ _ => trivial)) (nomark _)) (fun p446 => (lx_as (E' := eD) lx_non eN.enc (fun _ => rfl))) (fun p446 => (lx_tup (la_cons lx_str (fun p447 => la_nil)) eD (fun a : Str × Unit => PyData.tuple [eS.enc a.1]) (fun a => [eS.enc a.1]) (fun _ => (.cons .nil)) (fun _ => rfl))) (fun p446 _ => Sub.refl _) (fun p446 _ => Sub.refl _)) (fun _ => rfl)) (fun _ => ()) (fun p => (.drop (.drop (.drop (.drop (.drop (.keep (.keep (.keep (.keep Sub.nil)))))))))))) (fun p441 => (lb_set 5 nd (lx_call (ok_pieces_fault fa) (hr.mono (by decide)) fa.g_pieces_fault fa.F_pieces_fault.kp fa.b_pieces_fault (fun _ => (.cons cp_it (.cons cp_it .nil))) (la_cons (lx_var 0 cp_it rfl) (fun p451 => (la_cons (lx_var 3 cp_it rfl) (fun p452 => la_nil))))) (fun v_fault_454 p455 => (lb_ifr (lt_cmp (lc_notN (lx_var 5 cp_it rfl)) (nomark _)) (fun p456 => (lb_ret (lx_tup (la_cons lx_str (fun p457 => (la_cons (lx_var 5 cp_it rfl) (fun p458 => la_nil)))) eD (fun a : Str × PyData × Unit => PyData.tuple [eS.enc a.1, eD.enc a.2.1]) (fun a => [eS.enc a.1, eD.enc a.2.1]) (fun _ => (.cons (.cons .nil))) (fun _ => rfl)) (fun _ => ()) (fun p => (.drop (.drop (.drop (.drop (.drop (.drop (.keep (.keep (.keep Sub.nil)))))))))))) (fun p456 => (lb_ifr (lt_cmp (lc_neC hu dv_it dv_it (lo_of (lx_call (ok_late_by fa) (hr.mono (by decide)) fa.g_late_by fa.F_late_by.kp fa.b_late_by (fun _ => (.cons cp_it (.cons cp_it .nil))) (la_cons (lx_var 0 cp_it rfl) (fun p459 => (la_cons (lx_call (ok_ends_of fa) (hr.mono (by decide)) fa.g_ends_of fa.F_ends_of.kp fa.b_ends_of (fun _ => (.cons cp_it (.cons cp_it .nil))) (la_cons (lx_var 0 cp_it rfl) (fun p460 => (la_cons (lx_var 3 cp_it rfl) (fun p461 => la_nil))))) (fun p463 => la_nil)))))) (fun p465 => (lo_of (lx_var 2 cp_it rfl))) (fun _ _ => trivial) (fun _ _ => trivial)) (nomark _)) (fun p466 => (lb_ret (lx_tup (la_cons lx_str (fun p467 => la_nil)) eD (fun a : Str × Unit => PyData.tuple [eS.enc a.1]) (fun a => [eS.enc a.1]) (fun _ => (.cons .nil)) (fun _ => rfl)) (fun _ => ()) (fun p => (.drop (.drop (.drop (.drop (.drop (.drop (.keep (.keep (.keep Sub.nil)))))))))))) (fun p466 => (lb_set 6 nd (lx_all rfl lm_ow.w fa.z_all (lo_of (lx_lc (envT := (fun t470 : Unit => [.st none (List (Int × Int × Int)) (it (eL (eT3 eI eI eI))) a_orders, .st none ((Option Int) × (List (Int × Int × Int)) × (List Int)) (it (eT3 (eO eI nnI) (eL (eT3 eI eI eI)) (eL eI))) a_told, .st none (Option Int) (it (eO eI nnI)) x439.1, .st none (List (Int × Int × Int)) (it (eL (eT3 eI eI eI))) x439.2.1, .st none (List Int) (it (eL eI)) x439.2.2, .st none PyData (it eD) v_fault_454, .un, .un, .un])) rfl nd (blkOk_by (N := n_days_fault) (sc := defScope s_days_fault) (own := [("at", 7)]) (by decide +kernel)) (li_range1 (by rfl) fa.z_range (lx_sub (lx_len lm_sh.w fa.z_len (lo_of (lx_var 4 cp_it rfl)) (fun _ => trivial)) (fun p468 => lx_int))) (fun p469 => ()) (fun p469 => (Sub.refl _)) (by intro t i s hm he; simp at hm; subst hm; (have e := Option.some.inj he; exact e.symm)) (fun _ _ _ _ _ t470 => (lg_name 7 nd)) (fun _ _ _ _ _ t470 x471 => ltl_nil) (fun _ _ _ _ _ t470 x471 p472 => (lx_cmp (lc_lt (lx_ix lm_sh.w (lo_of (lx_var 4 cp_it rfl)) (fun p473 => (lx_var 7 cp_it rfl)) (fun _ _ => trivial)) (fun p475 => (lx_ix lm_sh.w (lo_of (lx_var 4 cp_it rfl)) (fun p476 => (lx_add (lx_var 7 cp_it rfl) (fun p477 => lx_int))) (fun _ _ => trivial)))) (nomark _))) (fun t470 x471 p472 p479 => ()) (fun t470 x471 p472 p479 => by exact (.keep (.keep (.keep (.keep (.keep (.keep (.keep (.drop (.keep Sub.nil)))))))))) (fun t470 x471 p472 => ()) (fun t470 x471 p472 => by exact (.keep (.keep (.keep (.keep (.keep (.keep (.keep (.drop (.keep Sub.nil)))))))))))) (fun _ => trivial)) (fun v_rising_483 p484 => by exact (lb_ifr (lt_cut (lt_w (lw_or (lt_not (lt_tru lm_sh.w (lo_of (lx_var 4 cp_it rfl)) (fun _ => trivial))) (fun p485 => (lw_or (lt_not (lt_val (lx_var 6 cp_it rfl))) (fun p486 => (lw_or1 (lt_not (lt_val (lx_all rfl lm_ow.w fa.z_all (lo_of (lx_lc (envT := (fun t488 : Unit => [.st none (List (Int × Int × Int)) (it (eL (eT3 eI eI eI))) a_orders, .st none ((Option Int) × (List (Int × Int × Int)) × (List Int)) (it (eT3 (eO eI nnI) (eL (eT3 eI eI eI)) (eL eI))) a_told, .st none (Option Int) (it (eO eI nnI)) x439.1, .st none (List (Int × Int × Int)) (it (eL (eT3 eI eI eI))) x439.2.1, .st none (List Int) (it (eL eI)) x439.2.2, .st none PyData (it eD) v_fault_454, .st none Bool (it eB) v_rising_483, .un, .un])) rfl nd (blkOk_by (N := n_days_fault) (sc := defScope s_days_fault) (own := [("member", 8)]) (by decide +kernel)) (li_list lm_sh.w (lx_var 4 cp_it rfl)) (fun p487 => ()) (fun p487 => (Sub.refl _)) (by intro t i s hm he; simp at hm; subst hm; (have e := Option.some.inj he; exact e.symm)) (fun _ _ _ _ _ t488 => (lg_name 8 nd)) (fun _ _ _ _ _ t488 x489 => ltl_nil) (fun _ _ _ _ _ t488 x489 p490 => (lx_cut (lx_chain coLe coLt lx_int (fun p491 => (lx_var 8 cp_it rfl)) (fun p491 p492 => (lx_len lm_sh.w fa.z_len (lo_of (lx_var 0 cp_it rfl)) (fun _ => trivial))) (fun p491 p492 p493 => Sub.refl _)) (fun _ => rfl))) (fun t488 x489 p490 p495 => ()) (fun t488 x489 p490 p495 => by exact (.keep (.keep (.keep (.keep (.keep (.keep (.keep (.keep (.drop Sub.nil)))))))))) (fun t488 x489 p490 => ()) (fun t488 x489 p490 => by exact (.keep (.keep (.keep (.keep (.keep (.keep (.keep (.keep (.drop Sub.nil)))))))))))) (fun _ => trivial)))))) (fun p486 _ => Sub.refl _))) (fun p485 _ => Sub.refl _))) (fun _ => rfl)) (fun p500 => (lb_ret (lx_tup (la_cons lx_str (fun p501 => la_nil)) eD (fun a : Str × Unit => PyData.tuple [eS.enc a.1]) (fun a => [eS.enc a.1]) (fun _ => (.cons .nil)) (fun _ => rfl)) (fun _ => ()) (fun p => (.drop (.drop (.drop (.drop (.drop (.drop (.drop (.keep (.keep Sub.nil)))))))))))) (fun p500 => (lb_ret (lx_cut (lx_if (S := (it eD)) (lt_cmp (lc_ge (lx_call (ok_held_by fa) (hr.mono (by decide)) fa.g_held_by fa.F_held_by.kp fa.b_held_by (fun _ => (.cons cp_it (.cons cp_it .nil))) (la_cons (lx_var 0 cp_it rfl) (fun p502 => (la_cons (lx_var 4 cp_it rfl) (fun p503 => la_nil))))) (fun p505 => (lx_cast (E' := eI) (lx_var 2 cp_it rfl) id (fun a b h => by have h : a = some b := h; subst h; rfl)))) (nomark _)) (fun p507 => (lx_as (E' := eD) lx_non eN.enc (fun _ => rfl))) (fun p507 => (lx_tup (la_cons lx_str (fun p508 => la_nil)) eD (fun a : Str × Unit => PyData.tuple [eS.enc a.1]) (fun a => [eS.enc a.1]) (fun _ => (.cons .nil)) (fun _ => rfl))) (fun p507 _ => Sub.refl _) (fun p507 _ => Sub.refl _)) (fun _ => rfl)) (fun _ => ()) (fun p => (.drop (.drop (.drop (.drop (.drop (.drop (.drop (.keep (.keep Sub.nil)))))))))))))))))))))))))
    (by first | (unfold m_days_fault; dsimp only [id]; done) | (unfold m_days_fault; dsimp only [id]; rfl) | rfl)
abbrev n__law_state : List Str := ["script", "cells", "cell"]
theorem sc__law_state : FnScope n__law_state ["script"] (defScope s__law_state) := ⟨rfl, rfl, rfl, by decide +kernel, rfl, by decide +kernel, by decide +kernel⟩
abbrev sp__law_state (K : Fg) : Sp := spP K (fun a : List Int × Unit => [.st none (List Int) scr a.1]) stT (fun a => m__law_state a.1)
set_option maxHeartbeats 0 in
theorem ok__law_state (fa : Fa K mg) : FnOk P w K mg base CX0 1 fa.f__law_state fa.fd__law_state ["script"] (sp__law_state K) := by
  refine fnP fa.F__law_state sc__law_state 2 rfl (fun _ => rfl) fun cdv A' outer s H E hr => ?_
  have nd := sc__law_state.nd
  have hu := hr.units
  have hu5 : (A'.deeper (envOfC "_law_state" (defScope s__law_state) s.heap.objs.size fa.f__law_state cdv)).units + 65 < cLine := by have := hr.un; omega
  rintro ⟨a_script, _⟩
  exact lb_use (env := [.st none (List Int) scr a_script, .un, .un])
    (lb_setLc (envT := (fun t517 : Unit => [.st none (List Int) scr a_script, .un, .un])) rfl nd (blkOk_by (N := n__law_state) (sc := defScope s__law_state) (own := [("cell", 2)]) (by decide +kernel)) 1 (li_list lm_ow.w (lx_slR lv_scr (lx_var 0 cp_scr rfl) (fun p515 => lx_int))) (fun p516 => ()) (fun p516 => (Sub.refl _)) (by intro t i s hm he; simp at hm; subst hm; (have e := Option.some.inj he; exact e.symm)) (fun _ _ _ _ _ t517 => (lg_name 2 nd)) (fun _ _ _ _ _ t517 x518 => ltl_nil) (fun _ _ _ _ _ t517 x518 p519 => (lx_abs fa.z_abs (lx_var 2 cp_it rfl))) (fun t517 x518 p519 p520 => ()) (fun t517 x518 p519 p520 => by exact (.keep (.keep (.drop Sub.nil)))) (fun t517 x518 p519 => ()) (fun t517 x518 p519 => by exact (.keep (.keep (.drop Sub.nil)))) (fun v_cells_524 p525 => (lb_if (env1 := (fun j528 : (List Int) => [.st none (List Int) scr a_script, .st none (List Int) (ls (it eI)) j528, .un])) (lt_cmp (lc_eqI (lx_len lm_ow.w fa.z_len (lo_var 1 rfl) (fun _ => rfl)) (fun p526 => lx_int)) (nomark _)) (fun p527 => (lb_set 1 nd (lx_list (la_cons lx_int (fun p530 => la_nil)) eI (fun a : Int × Unit => [a.1]) (fun _ => (.cons .nil))) (fun v_cells_531 p532 => (lb_end v_cells_531 (Sub.refl _))))) (fun p527 => (lb_end v_cells_524 (Sub.refl _))) (fun j528 => (lb_ret (lx_st lx_int (fun p533 => (lx_move 1 rfl))) (fun _ => ()) (fun p => (.drop (.keep (.keep Sub.nil)))))))) (sw_true rfl rfl rfl (by decide +kernel)))
    (by first | (unfold m__law_state; dsimp only [id]; done) | (unfold m__law_state; dsimp only [id]; rfl) | rfl)
abbrev n__law_take : List Str := ["state", "most", "cells", "at", "cell", "mixed"]
theorem sc__law_take : FnScope n__law_take ["state", "most"] (defScope s__law_take) := ⟨rfl, rfl, rfl, by decide +kernel, rfl, by decide +kernel, by decide +kernel⟩
abbrev sp__law_take (K : Fg) : Sp := spI K stT (fun a : Int × Unit => [.st none Int (it eI) a.1]) (it eI) (fun t0 a => m__law_take t0 a.1)
set_option maxHeartbeats 0 in
theorem ok__law_take (fa : Fa K mg) : FnOk P w K mg base CX0 1 fa.f__law_take fa.fd__law_take ["state", "most"] (sp__law_take K) := by
  refine fnI fa.F__law_take sc__law_take 4 rfl (fun _ => rfl) fun cdv A' outer s H E hr => ?_
  have nd := sc__law_take.nd
  have hu := hr.units
  have hu5 : (A'.deeper (envOfC "_law_take" (defScope s__law_take) s.heap.objs.size fa.f__law_take cdv)).units + 65 < cLine := by have := hr.un; omega
  rintro v0 t0 ⟨a_most, _⟩
  exact lb_use (env := [.st (some v0) TSt stT t0, .st none Int (it eI) a_most, .un, .un, .un, .un])
    (lb_alias 0 2 nd rfl rfl (fun q => (lb_set 3 nd (lx_mod (lx_st0 0 rfl) (fun p534 => (lx_len lm_ow.w fa.z_len (lo_var 2 rfl) (fun _ => rfl)))) (fun v_at_535 p536 => (lb_set 4 nd (lx_ix lm_ow.w (lo_var 2 rfl) (fun p537 => (lx_var 3 cp_it rfl)) (fun _ _ => rfl)) (fun v_cell_539 p540 => (lb_ifr (lt_cmp (lc_ge (lx_var 4 cp_it rfl) (fun p541 => lx_int)) (nomark _)) (fun p542 => (lb_setix 2 (lx_fdiv (lx_var 4 cp_it rfl) (fun p543 => (lx_var 1 cp_it rfl))) (fun _ => rfl) (fun y544 p545 => (lx_var 3 cp_it rfl)) (fun _ _ _ => rfl) (fun y544 p545 j546 p547 z548 => (lb_join 0 2 rfl rfl (lb_ret (lx_mod (lx_var 4 cp_it rfl) (fun p549 => (lx_var 1 cp_it rfl))) (fun p => (t0.1, z548)) (fun p => (.keep (.drop (.keep (.drop (.drop (.keep Sub.nil)))))))))))) (fun p542 => (lb_st0 0 (lx_add (lx_st0 0 rfl) (fun p551 => lx_int)) (fun _ => rfl) (fun y552 p553 => (lb_set 5 nd (lx_mod (lx_int1 fa.z_int (lx_add (lx_mul (lx_var 4 cp_it rfl) (fun p556 => lx_int)) (fun p557 => (lx_mul (lx_st0 0 rfl) (fun p558 => lx_int))))) (fun p559 => lx_int)) (fun v_mixed_560 p561 => (lb_set 5 nd (lx_mod (lx_int1 fa.z_int (lx_add (lx_mul (lx_var 5 cp_it rfl) (fun p563 => lx_int)) (fun p564 => (lx_mul (lx_st0 0 rfl) (fun p565 => lx_int))))) (fun p566 => lx_int)) (fun v_mixed_567 p568 => (lb_join 0 2 rfl rfl (lb_ret (lx_mod (lx_fdiv (lx_var 5 cp_it rfl) (fun p569 => lx_int)) (fun p570 => (lx_var 1 cp_it rfl))) (fun p => (y552, t0.2)) (fun p => (.keep (.drop (.keep (.drop (.drop (.drop Sub.nil)))))))))))))))))))))))
    (by first | (unfold m__law_take; dsimp only [id]; done) | (unfold m__law_take; dsimp only [id]; rfl) | rfl)
abbrev n__law_orders : List Str := ["state", "most", "size", "found", "k", "come", "time"]
theorem sc__law_orders : FnScope n__law_orders ["state", "most"] (defScope s__law_orders) := ⟨rfl, rfl, rfl, by decide +kernel, rfl, by decide +kernel, by decide +kernel⟩
abbrev sp__law_orders (K : Fg) : Sp := spI K stT (fun a : Int × Unit => [.st none Int (it eI) a.1]) (it (eL (eT3 eI eI eI))) (fun t0 a => m__law_orders t0 a.1)
set_option maxHeartbeats 0 in
theorem ok__law_orders (fa : Fa K mg) : FnOk P w K mg base CX0 2 fa.f__law_orders fa.fd__law_orders ["state", "most"] (sp__law_orders K) := by
  refine fnI fa.F__law_orders sc__law_orders 5 rfl (fun _ => rfl) fun cdv A' outer s H E hr => ?_
  have nd := sc__law_orders.nd
  have hu := hr.units
  have hu5 : (A'.deeper (envOfC "_law_orders" (defScope s__law_orders) s.heap.objs.size fa.f__law_orders cdv)).units + 65 < cLine := by have := hr.un; omega
  rintro v0 t0 ⟨a_most, _⟩
  exact lb_use (env := [.st (some v0) TSt stT t0, .st none Int (it eI) a_most, .un, .un, .un, .un, .un])
    (lb_set 2 nd (lx_ix lm_ow.w (lo_of (lx_list (la_cons lx_int (fun p571 => (la_cons lx_int (fun p572 => la_nil)))) eI (fun a : Int × Int × Unit => [a.1, a.2.1]) (fun _ => (.cons (.cons .nil))))) (fun p573 => (lx_callI 0 (ok__law_take fa) (hr.mono (by decide)) fa.g__law_take fa.F__law_take.kp fa.b__law_take (fun _ => (.cons cp_it .nil)) rfl (la_cons lx_int (fun p574 => la_nil)) (fun _ => rfl))) (fun _ _ => trivial)) (fun v_size_577 p578 => (lb_set 3 nd (lx_list la_nil (eT3 eI eI eI) (fun _ => []) (fun _ => .nil)) (fun v_found_579 p580 => (lb_for (envT := (fun t585 : (TSt × (List (Int × Int × Int))) => [.st (some v0) TSt stT t585.1, .st none Int (it eI) a_most, .st none Int (it eI) v_size_577, .st none (List (Int × Int × Int)) (ls (it (eT3 eI eI eI))) t585.2, .un, .un, .un])) PassesOwn.never rfl (li_range1 (by rfl) fa.z_range (lx_callI 0 (ok__law_take fa) (hr.mono (by decide)) fa.g__law_take fa.F__law_take.kp fa.b__law_take (fun _ => (.cons cp_it .nil)) rfl (la_cons (lx_add (lx_var 1 cp_it rfl) (fun p581 => lx_int)) (fun p582 => la_nil)) (fun _ => rfl))) (fun p584 => (p584.2, v_found_579)) (fun p584 => (Sub.refl _)) (fun t585 => (lg_name 4 nd)) (fun x586 t585 kc587 kb588 => (lb_set 5 nd (lx_callI 0 (ok__law_take fa) (hr.mono (by decide)) fa.g__law_take fa.F__law_take.kp fa.b__law_take (fun _ => (.cons cp_it .nil)) rfl (la_cons (lx_mul lx_int (fun p589 => (lx_var 2 cp_it rfl))) (fun p590 => la_nil)) (fun _ => rfl)) (fun v_come_592 p593 => (lb_set 6 nd (lx_add lx_int (fun p594 => (lx_callI 0 (ok__law_take fa) (hr.mono (by decide)) fa.g__law_take fa.F__law_take.kp fa.b__law_take (fun _ => (.cons cp_it .nil)) rfl (la_cons (lx_var 2 cp_it rfl) (fun p595 => la_nil)) (fun _ => rfl)))) (fun v_time_597 p598 => (lb_app 3 rfl (lx_tup (la_cons (lx_var 5 cp_it rfl) (fun p601 => (la_cons (lx_var 6 cp_it rfl) (fun p602 => (la_cons (lx_add (lx_add (lx_var 5 cp_it rfl) (fun p607 => (lx_callI 0 (ok__law_take fa) (hr.mono (by decide)) fa.g__law_take fa.F__law_take.kp fa.b__law_take (fun _ => (.cons cp_it .nil)) rfl (la_cons (lx_mul lx_int (fun p608 => (lx_var 2 cp_it rfl))) (fun p609 => la_nil)) (fun _ => rfl)))) (fun p611 => (lx_ix lm_ow.w (lo_of (lx_list (la_cons lx_int (fun p612 => (la_cons (lx_var 6 cp_it rfl) (fun p613 => la_nil)))) eI (fun a : Int × Int × Unit => [a.1, a.2.1]) (fun _ => (.cons (.cons .nil))))) (fun p614 => (lx_callI 0 (ok__law_take fa) (hr.mono (by decide)) fa.g__law_take fa.F__law_take.kp fa.b__law_take (fun _ => (.cons cp_it .nil)) rfl (la_cons lx_int (fun p615 => la_nil)) (fun _ => rfl))) (fun _ _ => trivial)))) (fun p618 => la_nil)))))) (eT3 eI eI eI) (fun a : Int × Int × Int × Unit => (a.1, a.2.1, a.2.2.1)) (fun a => [eI.enc a.1, eI.enc a.2.1, eI.enc a.2.2.1]) (fun _ => (.cons (.cons (.cons .nil)))) (fun _ => rfl)) (fun _ => rfl) (fun y600 p599 => (lb_end (p599.2.2.1.2.2.2, (t585.2 ++ [y600])) (.keep (.keep (.keep (.keep (.drop (.drop (.drop Sub.nil))))))))))))))) (fun t620 => (lb_ret (lx_frz 3 (fz_ls fz_it) rfl) (fun p => t620.1) (fun p => (.keep (.drop (.drop (.drop (.keep (.keep (.keep Sub.nil)))))))))))))))
    (by first | (unfold m__law_orders; dsimp only [id]; done) | (unfold m__law_orders; dsimp only [id]; rfl) | rfl)
abbrev n__law_pieces_fault : List Str := ["orders", "pieces", "done", "order", "k", "start", "end", "at"]
theorem sc__law_pieces_fault : FnScope n__law_pieces_fault ["orders", "pieces"] (defScope s__law_pieces_fault) := ⟨rfl, rfl, rfl, by decide +kernel, rfl, by decide +kernel, by decide +kernel⟩
abbrev sp__law_pieces_fault (K : Fg) : Sp := spP K (fun a : (List (Int × Int × Int)) × (List (Int × Int × Int)) × Unit => [.st none (List (Int × Int × Int)) (it (eL (eT3 eI eI eI))) a.1, .st none (List (Int × Int × Int)) (it (eL (eT3 eI eI eI))) a.2.1]) (it eD) (fun a => m__law_pieces_fault a.1 a.2.1)
set_option maxHeartbeats 0 in
theorem ok__law_pieces_fault (fa : Fa K mg) : FnOk P w K mg base CX0 1 fa.f__law_pieces_fault fa.fd__law_pieces_fault ["orders", "pieces"] (sp__law_pieces_fault K) := by
  refine fnP fa.F__law_pieces_fault sc__law_pieces_fault 6 rfl (fun _ => rfl) fun cdv A' outer s H E hr => ?_
  have nd := sc__law_pieces_fault.nd
  have hu := hr.units
  have hu5 : (A'.deeper (envOfC "_law_pieces_fault" (defScope s__law_pieces_fault) s.heap.objs.size fa.f__law_pieces_fault cdv)).units + 65 < cLine := by have := hr.un; omega
  rintro ⟨a_orders, a_pieces, _⟩
  exact lb_use (env := [.st none (List (Int × Int × Int)) (it (eL (eT3 eI eI eI))) a_orders, .st none (List (Int × Int × Int)) (it (eL (eT3 eI eI eI))) a_pieces, .un, .un, .un, .un, .un, .un])
    (lb_setLc (envT := (fun t623 : Unit => [.st none (List (Int × Int × Int)) (it (eL (eT3 eI eI eI))) a_orders, .st none (List (Int × Int × Int)) (it (eL (eT3 eI eI eI))) a_pieces, .un, .un, .un, .un, .un, .un])) rfl nd (blkOk_by (N := n__law_pieces_fault) (sc := defScope s__law_pieces_fault) (own := [("order", 3)]) (by decide +kernel)) 2 (li_list lm_sh.w (lx_var 0 cp_it rfl)) (fun p622 => ()) (fun p622 => (Sub.refl _)) (by intro t i s hm he; simp at hm; subst hm; (have e := Option.some.inj he; exact e.symm)) (fun _ _ _ _ _ t623 => (lg_name 3 nd)) (fun _ _ _ _ _ t623 x624 => ltl_nil) (fun _ _ _ _ _ t623 x624 p625 => lx_int) (fun t623 x624 p625 p626 => ()) (fun t623 x624 p625 p626 => by exact (.keep (.keep (.keep (.drop (.keep (.keep (.keep (.keep Sub.nil))))))))) (fun t623 x624 p625 => ()) (fun t623 x624 p625 => by exact (.keep (.keep (.keep (.drop (.keep (.keep (.keep (.keep Sub.nil))))))))) (fun v_done_630 p631 => (lb_for (envT := (fun t633 : (List Int) => [.st none (List (Int × Int × Int)) (it (eL (eT3 eI eI eI))) a_orders, .st none (List (Int × Int × Int)) (it (eL (eT3 eI eI eI))) a_pieces, .st none (List Int) (ls (it eI)) t633, .un, .un, .un, .un, .un])) PassesOwn.never rfl (li_range1 (by rfl) fa.z_range (lx_len lm_sh.w fa.z_len (lo_of (lx_var 1 cp_it rfl)) (fun _ => trivial))) (fun p632 => v_done_630) (fun p632 => (Sub.refl _)) (fun t633 => (lg_name 4 nd)) (fun x634 t633 kc635 kb636 => (lb_asg (lx_ix lm_sh.w (lo_of (lx_var 1 cp_it rfl)) (fun p637 => (lx_var 4 cp_it rfl)) (fun _ _ => trivial)) (fun p640 => (lg_tup (E := (eT3 eI eI eI)) (lgs_cons (lg_name 5 nd) (fun _ => (lgs_cons (lg_name 6 nd) (fun _ => (lgs_cons (lg_name 7 nd) (fun _ => lgs_nil)))))) (fun x => (x.1, x.2.1, x.2.2, ())) (fun a : Int × Int × Int × Unit => [eI.enc (a.1), eI.enc (a.2.1), eI.enc (a.2.2.1)]) (fun _ => (.cons (.cons (.cons .nil)))) (fun _ => rfl) rfl (fun _ => rfl))) (fun x639 p640 => (lb_ifr (lt_cut (lt_w (lw_or (lt_not (lt_cut (lt_chain coLe coLt lx_int (fun p641 => (lx_var 7 cp_it rfl)) (fun p641 p642 => (lx_len lm_sh.w fa.z_len (lo_of (lx_var 0 cp_it rfl)) (fun _ => trivial))) (fun p641 p642 p643 => Sub.refl _)) (fun _ => rfl))) (fun p645 => (lw_or (lt_cmp (lc_ge (lx_var 5 cp_it rfl) (fun p646 => (lx_var 6 cp_it rfl))) (nomark _)) (fun p647 => (lw_or1 (lt_cut (lt_w (lw_and (lt_cmp (lc_gt (lx_var 4 cp_it rfl) (fun p648 => lx_int)) (nomark _)) (fun p649 => (lw_and1 (lt_cmp (lc_lt (lx_var 5 cp_it rfl) (fun p650 => (lx_part part3_1 (lx_ix lm_sh.w (lo_of (lx_var 1 cp_it rfl)) (fun p651 => (lx_sub (lx_var 4 cp_it rfl) (fun p652 => lx_int))) (fun _ _ => trivial))))) (nomark _)))) (fun p649 _ => Sub.refl _))) (fun _ => rfl)))) (fun p647 _ => Sub.refl _))) (fun p645 _ => Sub.refl _))) (fun _ => rfl)) (fun p656 => (lb_ret (lx_tup (la_cons lx_str (fun p657 => (la_cons (lx_var 4 cp_it rfl) (fun p658 => la_nil)))) eD (fun a : Str × Int × Unit => PyData.tuple [eS.enc a.1, eI.enc a.2.1]) (fun a => [eS.enc a.1, eI.enc a.2.1]) (fun _ => (.cons (.cons .nil))) (fun _ => rfl)) (fun _ => ()) (fun p => (.drop (.drop (.drop (.keep (.drop (.drop (.drop (.drop Sub.nil))))))))))) (fun p656 => (lb_ifr (lt_cmp (lc_lt (lx_var 5 cp_it rfl) (fun p659 => (lx_part part3_0 (lx_ix lm_sh.w (lo_of (lx_var 0 cp_it rfl)) (fun p660 => (lx_var 7 cp_it rfl)) (fun _ _ => trivial))))) (nomark _)) (fun p662 => (lb_ret (lx_tup (la_cons lx_str (fun p663 => (la_cons (lx_var 4 cp_it rfl) (fun p664 => la_nil)))) eD (fun a : Str × Int × Unit => PyData.tuple [eS.enc a.1, eI.enc a.2.1]) (fun a => [eS.enc a.1, eI.enc a.2.1]) (fun _ => (.cons (.cons .nil))) (fun _ => rfl)) (fun _ => ()) (fun p => (.drop (.drop (.drop (.keep (.drop (.drop (.drop (.drop Sub.nil))))))))))) (fun p662 => (lb_setix 2 (lx_sub (lx_add (lx_ix lm_ow.w (lo_var 2 rfl) (fun p667 => (lx_var 7 cp_it rfl)) (fun _ _ => rfl)) (fun p669 => (lx_var 6 cp_it rfl))) (fun p670 => (lx_var 5 cp_it rfl))) (fun _ => rfl) (fun y671 p672 => (lx_var 7 cp_it rfl)) (fun _ _ _ => rfl) (fun y671 p672 j673 p674 z675 => (lb_end z675 (.keep (.keep (.keep (.keep (.drop (.drop (.drop (.drop Sub.nil)))))))))))))))))) (fun t681 => (lb_for (envT := (fun t683 : Unit => [.st none (List (Int × Int × Int)) (it (eL (eT3 eI eI eI))) a_orders, .st none (List (Int × Int × Int)) (it (eL (eT3 eI eI eI))) a_pieces, .st none (List Int) (ls (it eI)) t681, .un, .un, .un, .un, .un])) PassesOwn.never rfl (li_range1 (by rfl) fa.z_range (lx_len lm_sh.w fa.z_len (lo_of (lx_var 0 cp_it rfl)) (fun _ => trivial))) (fun p682 => ()) (fun p682 => (Sub.refl _)) (fun t683 => (lg_name 7 nd)) (fun x684 t683 kc685 kb686 => (lb_ifr (lt_cmp (lc_neI (lx_ix lm_ow.w (lo_var 2 rfl) (fun p687 => (lx_var 7 cp_it rfl)) (fun _ _ => rfl)) (fun p689 => (lx_part part3_1 (lx_ix lm_sh.w (lo_of (lx_var 0 cp_it rfl)) (fun p690 => (lx_var 7 cp_it rfl)) (fun _ _ => trivial))))) (nomark _)) (fun p692 => (lb_ret (lx_tup (la_cons lx_str (fun p693 => (la_cons (lx_var 7 cp_it rfl) (fun p694 => la_nil)))) eD (fun a : Str × Int × Unit => PyData.tuple [eS.enc a.1, eI.enc a.2.1]) (fun a => [eS.enc a.1, eI.enc a.2.1]) (fun _ => (.cons (.cons .nil))) (fun _ => rfl)) (fun _ => ()) (fun p => (.drop (.drop (.drop (.keep (.keep (.keep (.keep (.drop Sub.nil))))))))))) (fun p692 => (lb_end () (.keep (.keep (.keep (.keep (.keep (.keep (.keep (.drop Sub.nil)))))))))))) (fun t695 => (lb_ret (lx_as (E' := eD) lx_non eN.enc (fun _ => rfl)) (fun _ => ()) (fun p => (.drop (.drop (.drop (.keep (.keep (.keep (.keep (.keep Sub.nil))))))))))))))) (sw_true rfl rfl rfl (by decide +kernel)))
    (by first | (unfold m__law_pieces_fault; dsimp only [id]; done) | (unfold m__law_pieces_fault; dsimp only [id]; rfl) | rfl)
abbrev n__law_held : List Str := ["orders", "members", "k"]
theorem sc__law_held : FnScope n__law_held ["orders", "members"] (defScope s__law_held) := ⟨rfl, rfl, rfl, by decide +kernel, rfl, by decide +kernel, by decide +kernel⟩
abbrev sp__law_held (K : Fg) : Sp := spP K (fun a : (List (Int × Int × Int)) × (List Int) × Unit => [.st none (List (Int × Int × Int)) (it (eL (eT3 eI eI eI))) a.1, .st none (List Int) (it (eL eI)) a.2.1]) (it eI) (fun a => m__law_held a.1 a.2.1)
set_option maxHeartbeats 0 in
theorem ok__law_held (fa : Fa K mg) : FnOk P w K mg base CX0 1 fa.f__law_held fa.fd__law_held ["orders", "members"] (sp__law_held K) := by
  refine fnP fa.F__law_held sc__law_held 1 rfl (fun _ => rfl) fun cdv A' outer s H E hr => ?_
  have nd := sc__law_held.nd
  have hu := hr.units
  have hu5 : (A'.deeper (envOfC "_law_held" (defScope s__law_held) s.heap.objs.size fa.f__law_held cdv)).units + 65 < cLine := by have := hr.un; omega
  rintro ⟨a_orders, a_members, _⟩
  exact lb_use (env := [.st none (List (Int × Int × Int)) (it (eL (eT3 eI eI eI))) a_orders, .st none (List Int) (it (eL eI)) a_members, .un])
    (lb_ret (lx_sub (lx_add (lx_minI rfl lm_ow.w fa.z_min (lo_of (lx_lc (envT := (fun t710 : Unit => [.st none (List (Int × Int × Int)) (it (eL (eT3 eI eI eI))) a_orders, .st none (List Int) (it (eL eI)) a_members, .un])) rfl nd (blkOk_by (N := n__law_held) (sc := defScope s__law_held) (own := [("k", 2)]) (by decide +kernel)) (li_list lm_sh.w (lx_var 1 cp_it rfl)) (fun p709 => ()) (fun p709 => (Sub.refl _)) (by intro t i s hm he; simp at hm; subst hm; (have e := Option.some.inj he; exact e.symm)) (fun _ _ _ _ _ t710 => (lg_name 2 nd)) (fun _ _ _ _ _ t710 x711 => ltl_nil) (fun _ _ _ _ _ t710 x711 p712 => (lx_part part3_0 (lx_ix lm_sh.w (lo_of (lx_var 0 cp_it rfl)) (fun p713 => (lx_var 2 cp_it rfl)) (fun _ _ => trivial)))) (fun t710 x711 p712 p715 => ()) (fun t710 x711 p712 p715 => by exact (.keep (.keep (.drop Sub.nil)))) (fun t710 x711 p712 => ()) (fun t710 x711 p712 => by exact (.keep (.keep (.drop Sub.nil)))))) (fun _ => trivial)) (fun p720 => (lx_sum rfl lm_ow.w fa.z_sum (lo_of (lx_lc (envT := (fun t722 : Unit => [.st none (List (Int × Int × Int)) (it (eL (eT3 eI eI eI))) a_orders, .st none (List Int) (it (eL eI)) a_members, .un])) rfl nd (blkOk_by (N := n__law_held) (sc := defScope s__law_held) (own := [("k", 2)]) (by decide +kernel)) (li_list lm_sh.w (lx_var 1 cp_it rfl)) (fun p721 => ()) (fun p721 => (Sub.refl _)) (by intro t i s hm he; simp at hm; subst hm; (have e := Option.some.inj he; exact e.symm)) (fun _ _ _ _ _ t722 => (lg_name 2 nd)) (fun _ _ _ _ _ t722 x723 => ltl_nil) (fun _ _ _ _ _ t722 x723 p724 => (lx_part part3_1 (lx_ix lm_sh.w (lo_of (lx_var 0 cp_it rfl)) (fun p725 => (lx_var 2 cp_it rfl)) (fun _ _ => trivial)))) (fun t722 x723 p724 p727 => ()) (fun t722 x723 p724 p727 => by exact (.keep (.keep (.drop Sub.nil)))) (fun t722 x723 p724 => ()) (fun t722 x723 p724 => by exact (.keep (.keep (.drop Sub.nil)))))) (fun _ => trivial)))) (fun p731 => (lx_maxI rfl lm_ow.w fa.z_max (lo_of (lx_lc (envT := (fun t733 : Unit => [.st none (List (Int × Int × Int)) (it (eL (eT3 eI eI eI))) a_orders, .st none (List Int) (it (eL eI)) a_members, .un])) rfl nd (blkOk_by (N := n__law_held) (sc := defScope s__law_held) (own := [("k", 2)]) (by decide +kernel)) (li_list lm_sh.w (lx_var 1 cp_it rfl)) (fun p732 => ()) (fun p732 => (Sub.refl _)) (by intro t i s hm he; simp at hm; subst hm; (have e := Option.some.inj he; exact e.symm)) (fun _ _ _ _ _ t733 => (lg_name 2 nd)) (fun _ _ _ _ _ t733 x734 => ltl_nil) (fun _ _ _ _ _ t733 x734 p735 => (lx_part part3_2 (lx_ix lm_sh.w (lo_of (lx_var 0 cp_it rfl)) (fun p736 => (lx_var 2 cp_it rfl)) (fun _ _ => trivial)))) (fun t733 x734 p735 p738 => ()) (fun t733 x734 p735 p738 => by exact (.keep (.keep (.drop Sub.nil)))) (fun t733 x734 p735 => ()) (fun t733 x734 p735 => by exact (.keep (.keep (.drop Sub.nil)))))) (fun _ => trivial)))) (fun _ => ()) (fun p => (.drop (.drop (.keep Sub.nil)))))
    (by first | (unfold m__law_held; dsimp only [id]; done) | (unfold m__law_held; dsimp only [id]; rfl) | rfl)
abbrev n__law_fault : List Str := ["orders", "told", "lateness", "pieces", "members", "found", "ends", "k", "start", "end", "at"]
theorem sc__law_fault : FnScope n__law_fault ["orders", "told"] (defScope s__law_fault) := ⟨rfl, rfl, rfl, by decide +kernel, rfl, by decide +kernel, by decide +kernel⟩
abbrev sp__law_fault (K : Fg) : Sp := spP K (fun a : (List (Int × Int × Int)) × ((Option Int) × (List (Int × Int × Int)) × (List Int)) × Unit => [.st none (List (Int × Int × Int)) (it (eL (eT3 eI eI eI))) a.1, .st none ((Option Int) × (List (Int × Int × Int)) × (List Int)) (it (eT3 (eO eI nnI) (eL (eT3 eI eI eI)) (eL eI))) a.2.1]) (it eD) (fun a => m__law_fault a.1 a.2.1)
set_option maxHeartbeats 0 in
theorem ok__law_fault (fa : Fa K mg) : FnOk P w K mg base CX0 2 fa.f__law_fault fa.fd__law_fault ["orders", "told"] (sp__law_fault K) := by
  refine fnP fa.F__law_fault sc__law_fault 9 rfl (fun _ => rfl) fun cdv A' outer s H E hr => ?_
  have nd := sc__law_fault.nd
  have hu := hr.units
  have hu5 : (A'.deeper (envOfC "_law_fault" (defScope s__law_fault) s.heap.objs.size fa.f__law_fault cdv)).units + 65 < cLine := by have := hr.un; omega
  rintro ⟨a_orders, a_told, _⟩
  exact lb_use (env := [.st none (List (Int × Int × Int)) (it (eL (eT3 eI eI eI))) a_orders, .st none ((Option Int) × (List (Int × Int × Int)) × (List Int)) (it (eT3 (eO eI nnI) (eL (eT3 eI eI eI)) (eL eI))) a_told, .un, .un, .un, .un, .un, .un, .un, .un, .un])
    (lb_asg (lx_var 1 cp_it rfl) (fun p744 => (lg_tup (E := (eT3 (eO eI nnI) (eL (eT3 eI eI eI)) (eL eI))) (lgs_cons (lg_name 2 nd) (fun _ => (lgs_cons (lg_name 3 nd) (fun _ => (lgs_cons (lg_name 4 nd) (fun _ => lgs_nil)))))) (fun x => (x.1, x.2.1, x.2.2, ())) (fun a : (Option Int) × (List (Int × Int × Int)) × (List Int) × Unit => [(eO eI nnI).enc (a.1), (eL (eT3 eI eI eI)).enc (a.2.1), (eL eI).enc (a.2.2.1)]) (fun _ => (.cons (.cons (.cons .nil)))) (fun _ => rfl) rfl (fun _ => rfl))) (fun x743 p744 => (lb_ifr (lt_cmp (lc_eqI (lx_len lm_sh.w fa.z_len (lo_of (lx_var 0 cp_it rfl)) (fun _ => trivial)) (fun p745 => lx_int)) (nomark _)) (fun p746 => (lb_ret (lx_cut (lx_if (S := (it eD)) (lt_cmp (lc_eqC hu dv_it dv_it (lo_of (lx_var 1 cp_it rfl)) (fun p747 => (lo_of (lx_tup (la_cons (lx_as (E' := (eO eI nnI)) lx_non (fun _ => none) (fun _ => rfl)) (fun p748 => (la_cons (lx_sh (fz_ls fz_it) (lx_list la_nil (eT3 eI eI eI) (fun _ => []) (fun _ => .nil))) (fun p749 => (la_cons (lx_sh (fz_ls fz_it) (lx_list la_nil eI (fun _ => []) (fun _ => .nil))) (fun p750 => la_nil)))))) (eT3 (eO eI nnI) (eL (eT3 eI eI eI)) (eL eI)) (fun a : (Option Int) × (List (Int × Int × Int)) × (List Int) × Unit => (a.1, a.2.1, a.2.2.1)) (fun a => [(eO eI nnI).enc a.1, (eL (eT3 eI eI eI)).enc a.2.1, (eL eI).enc a.2.2.1]) (fun _ => (.cons (.cons (.cons .nil)))) (fun _ => rfl)))) (fun _ _ => trivial) (fun _ _ => trivial)) (nomark _)) (fun p751 => (lx_as (E' := eD) lx_non eN.enc (fun _ => rfl))) (fun p751 => (lx_tup (la_cons lx_str (fun p752 => la_nil)) eD (fun a : Str × Unit => PyData.tuple [eS.enc a.1]) (fun a => [eS.enc a.1]) (fun _ => (.cons .nil)) (fun _ => rfl))) (fun p751 _ => Sub.refl _) (fun p751 _ => Sub.refl _)) (fun _ => rfl)) (fun _ => ()) (fun p => (.drop (.drop (.drop (.drop (.drop (.keep (.keep (.keep (.keep (.keep (.keep Sub.nil)))))))))))))) (fun p746 => (lb_set 5 nd (lx_call (ok__law_pieces_fault fa) (hr.mono (by decide)) fa.g__law_pieces_fault fa.F__law_pieces_fault.kp fa.b__law_pieces_fault (fun _ => (.cons cp_it (.cons cp_it .nil))) (la_cons (lx_var 0 cp_it rfl) (fun p756 => (la_cons (lx_var 3 cp_it rfl) (fun p757 => la_nil))))) (fun v_found_759 p760 => (lb_ifr (lt_cmp (lc_notN (lx_var 5 cp_it rfl)) (nomark _)) (fun p761 => (lb_ret (lx_tup (la_cons lx_str (fun p762 => (la_cons (lx_var 5 cp_it rfl) (fun p763 => la_nil)))) eD (fun a : Str × PyData × Unit => PyData.tuple [eS.enc a.1, eD.enc a.2.1]) (fun a => [eS.enc a.1, eD.enc a.2.1]) (fun _ => (.cons (.cons .nil))) (fun _ => rfl)) (fun _ => ()) (fun p => (.drop (.drop (.drop (.drop (.drop (.drop (.keep (.keep (.keep (.keep (.keep Sub.nil)))))))))))))) (fun p761 => (lb_set 6 nd (lx_lc (envT := (fun t765 : Unit => [.st none (List (Int × Int × Int)) (it (eL (eT3 eI eI eI))) a_orders, .st none ((Option Int) × (List (Int × Int × Int)) × (List Int)) (it (eT3 (eO eI nnI) (eL (eT3 eI eI eI)) (eL eI))) a_told, .st none (Option Int) (it (eO eI nnI)) x743.1, .st none (List (Int × Int × Int)) (it (eL (eT3 eI eI eI))) x743.2.1, .st none (List Int) (it (eL eI)) x743.2.2, .st none PyData (it eD) v_found_759, .un, .un, .un, .un, .un])) rfl nd (blkOk_by (N := n__law_fault) (sc := defScope s__law_fault) (own := [("k", 7)]) (by decide +kernel)) (li_range1 (by rfl) fa.z_range (lx_len lm_sh.w fa.z_len (lo_of (lx_var 0 cp_it rfl)) (fun _ => trivial))) (fun p764 => ()) (fun p764 => (Sub.refl _)) (by intro t i s hm he; simp at hm; subst hm; (have e := Option.some.inj he; exact e.symm)) (fun _ _ _ _ _ t765 => (lg_name 7 nd)) (fun _ _ _ _ _ t765 x766 => ltl_nil) (fun _ _ _ _ _ t765 x766 p767 => (lx_maxI rfl lm_ow.w fa.z_max (lo_of (lx_lc (envT := (fun t769 : Unit => [.st none (List (Int × Int × Int)) (it (eL (eT3 eI eI eI))) a_orders, .st none ((Option Int) × (List (Int × Int × Int)) × (List Int)) (it (eT3 (eO eI nnI) (eL (eT3 eI eI eI)) (eL eI))) a_told, .st none (Option Int) (it (eO eI nnI)) x743.1, .st none (List (Int × Int × Int)) (it (eL (eT3 eI eI eI))) x743.2.1, .st none (List Int) (it (eL eI)) x743.2.2, .st none PyData (it eD) v_found_759, .un, .st none Int (it eI) x766, .un, .un, .un])) rfl nd (blkOk_by (own := [("start", 8), ("end", 9), ("at", 10)]) (by rfl)) (li_list lm_sh.w (lx_var 3 cp_it rfl)) (fun p768 => ()) (fun p768 => (Sub.refl _)) (by intro t i s hm he; simp at hm; rcases hm with rfl | rfl | rfl <;> (have e := Option.some.inj he; exact e.symm)) (fun _ _ _ _ _ t769 => (lg_tup (E := (eT3 eI eI eI)) (lgs_cons (lg_name 8 nd) (fun _ => (lgs_cons (lg_name 9 nd) (fun _ => (lgs_cons (lg_name 10 nd) (fun _ => lgs_nil)))))) (fun x => (x.1, x.2.1, x.2.2, ())) (fun a : Int × Int × Int × Unit => [eI.enc (a.1), eI.enc (a.2.1), eI.enc (a.2.2.1)]) (fun _ => (.cons (.cons (.cons .nil)))) (fun _ => rfl) rfl (fun _ => rfl))) (fun _ _ _ _ _ t769 x770 => (ltl_one (lt_cmp (lc_eqI (lx_var 10 cp_it rfl) (fun p771 => (lx_var 7 cp_it rfl))) (nomark _)))) (fun _ _ _ _ _ t769 x770 p772 => (lx_var 9 cp_it rfl)) (fun t769 x770 p772 p773 => ()) (fun t769 x770 p772 p773 => by exact (.keep (.keep (.keep (.keep (.keep (.keep (.keep (.keep (.drop (.drop (.drop Sub.nil)))))))))))) (fun t769 x770 p772 => ()) (fun t769 x770 p772 => by exact (.keep (.keep (.keep (.keep (.keep (.keep (.keep (.keep (.drop (.drop (.drop Sub.nil)))))))))))))) (fun _ => trivial))) (fun t765 x766 p767 p778 => ()) (fun t765 x766 p767 p778 => by exact (.keep (.keep (.keep (.keep (.keep (.keep (.keep (.drop (.keep (.keep (.keep Sub.nil)))))))))))) (fun t765 x766 p767 => ()) (fun t765 x766 p767 => by exact (.keep (.keep (.keep (.keep (.keep (.keep (.keep (.drop (.keep (.keep (.keep Sub.nil))))))))))))) (fun v_ends_782 p783 => (lb_ifr (lt_cmp (lc_neC hu dv_it dv_it (lo_of (lx_maxI rfl lm_ow.w fa.z_max (lo_of (lx_lc (envT := (fun t785 : Unit => [.st none (List (Int × Int × Int)) (it (eL (eT3 eI eI eI))) a_orders, .st none ((Option Int) × (List (Int × Int × Int)) × (List Int)) (it (eT3 (eO eI nnI) (eL (eT3 eI eI eI)) (eL eI))) a_told, .st none (Option Int) (it (eO eI nnI)) x743.1, .st none (List (Int × Int × Int)) (it (eL (eT3 eI eI eI))) x743.2.1, .st none (List Int) (it (eL eI)) x743.2.2, .st none PyData (it eD) v_found_759, .st none (List Int) (ls (it eI)) v_ends_782, .un, .un, .un, .un])) rfl nd (blkOk_by (N := n__law_fault) (sc := defScope s__law_fault) (own := [("k", 7)]) (by decide +kernel)) (li_range1 (by rfl) fa.z_range (lx_len lm_sh.w fa.z_len (lo_of (lx_var 0 cp_it rfl)) (fun _ => trivial))) (fun p784 => ()) (fun p784 => (Sub.refl _)) (by intro t i s hm he; simp at hm; subst hm; (have e := Option.some.inj he; exact e.symm)) (fun _ _ _ _ _ t785 => (lg_name 7 nd)) (fun _ _ _ _ _ t785 x786 => ltl_nil) (fun _ _ _ _ _ t785 x786 p787 => (lx_sub (lx_ix lm_ow.w (lo_var 6 rfl) (fun p788 => (lx_var 7 cp_it rfl)) (fun _ _ => rfl)) (fun p790 => (lx_part part3_2 (lx_ix lm_sh.w (lo_of (lx_var 0 cp_it rfl)) (fun p791 => (lx_var 7 cp_it rfl)) (fun _ _ => trivial)))))) (fun t785 x786 p787 p793 => ()) (fun t785 x786 p787 p793 => by exact (.keep (.keep (.keep (.keep (.keep (.keep (.keep (.drop (.keep (.keep (.keep Sub.nil)))))))))))) (fun t785 x786 p787 => ()) (fun t785 x786 p787 => by exact (.keep (.keep (.keep (.keep (.keep (.keep (.keep (.drop (.keep (.keep (.keep Sub.nil)))))))))))))) (fun _ => trivial))) (fun p798 => (lo_of (lx_var 2 cp_it rfl))) (fun _ _ => trivial) (fun _ _ => trivial)) (nomark _)) (fun p799 => (lb_ret (lx_tup (la_cons lx_str (fun p800 => la_nil)) eD (fun a : Str × Unit => PyData.tuple [eS.enc a.1]) (fun a => [eS.enc a.1]) (fun _ => (.cons .nil)) (fun _ => rfl)) (fun _ => ()) (fun p => (.drop (.drop (.drop (.drop (.drop (.drop (.drop (.keep (.keep (.keep (.keep Sub.nil)))))))))))))) (fun p799 => (lb_ifr (lt_cut (lt_w (lw_or (lt_cmp (lc_eqI (lx_len lm_sh.w fa.z_len (lo_of (lx_var 4 cp_it rfl)) (fun _ => trivial)) (fun p801 => lx_int)) (nomark _)) (fun p802 => (lw_or (lt_cmp (lc_neT hu dv_it (dv_ls dv_it) (dtL dtI) (evL evI) (lo_of (lx_var 4 cp_it rfl)) (fun p803 => (lo_of (lx_usort rfl lm_sh.w fa.z_sorted fa.z_set (lo_of (lx_var 4 cp_it rfl)) (fun _ => trivial)))) (fun _ _ => trivial) (fun _ _ => trivial)) (nomark _)) (fun p804 => (lw_or1 (lt_cmp (lc_gt (lx_len lm_ow.w fa.z_len (lo_of (lx_lc (envT := (fun t806 : Unit => [.st none (List (Int × Int × Int)) (it (eL (eT3 eI eI eI))) a_orders, .st none ((Option Int) × (List (Int × Int × Int)) × (List Int)) (it (eT3 (eO eI nnI) (eL (eT3 eI eI eI)) (eL eI))) a_told, .st none (Option Int) (it (eO eI nnI)) x743.1, .st none (List (Int × Int × Int)) (it (eL (eT3 eI eI eI))) x743.2.1, .st none (List Int) (it (eL eI)) x743.2.2, .st none PyData (it eD) v_found_759, .st none (List Int) (ls (it eI)) v_ends_782, .un, .un, .un, .un])) rfl nd (blkOk_by (N := n__law_fault) (sc := defScope s__law_fault) (own := [("k", 7)]) (by decide +kernel)) (li_list lm_sh.w (lx_var 4 cp_it rfl)) (fun p805 => ()) (fun p805 => (Sub.refl _)) (by intro t i s hm he; simp at hm; subst hm; (have e := Option.some.inj he; exact e.symm)) (fun _ _ _ _ _ t806 => (lg_name 7 nd)) (fun _ _ _ _ _ t806 x807 => (ltl_one (lt_not (lt_cut (lt_chain coLe coLt lx_int (fun p808 => (lx_var 7 cp_it rfl)) (fun p808 p809 => (lx_len lm_sh.w fa.z_len (lo_of (lx_var 0 cp_it rfl)) (fun _ => trivial))) (fun p808 p809 p810 => Sub.refl _)) (fun _ => rfl))))) (fun _ _ _ _ _ t806 x807 p812 => (lx_var 7 cp_it rfl)) (fun t806 x807 p812 p813 => ()) (fun t806 x807 p812 p813 => by exact (.keep (.keep (.keep (.keep (.keep (.keep (.keep (.drop (.keep (.keep (.keep Sub.nil)))))))))))) (fun t806 x807 p812 => ()) (fun t806 x807 p812 => by exact (.keep (.keep (.keep (.keep (.keep (.keep (.keep (.drop (.keep (.keep (.keep Sub.nil)))))))))))))) (fun _ => trivial)) (fun p817 => lx_int)) (nomark _)))) (fun p804 _ => Sub.refl _))) (fun p802 _ => Sub.refl _))) (fun _ => rfl)) (fun p819 => (lb_ret (lx_tup (la_cons lx_str (fun p820 => la_nil)) eD (fun a : Str × Unit => PyData.tuple [eS.enc a.1]) (fun a => [eS.enc a.1]) (fun _ => (.cons .nil)) (fun _ => rfl)) (fun _ => ()) (fun p => (.drop (.drop (.drop (.drop (.drop (.drop (.drop (.keep (.keep (.keep (.keep Sub.nil)))))))))))))) (fun p819 => (lb_ret (lx_cut (lx_if (S := (it eD)) (lt_cmp (lc_ge (lx_call (ok__law_held fa) (hr.mono (by decide)) fa.g__law_held fa.F__law_held.kp fa.b__law_held (fun _ => (.cons cp_it (.cons cp_it .nil))) (la_cons (lx_var 0 cp_it rfl) (fun p821 => (la_cons (lx_var 4 cp_it rfl) (fun p822 => la_nil))))) (fun p824 => (lx_cast (E' := eI) (lx_var 2 cp_it rfl) id (fun a b h => by have h : a = some b := h; subst h; rfl)))) (nomark _)) (fun p826 => (lx_as (E' := eD) lx_non eN.enc (fun _ => rfl))) (fun p826 => (lx_tup (la_cons lx_str (fun p827 => la_nil)) eD (fun a : Str × Unit => PyData.tuple [eS.enc a.1]) (fun a => [eS.enc a.1]) (fun _ => (.cons .nil)) (fun _ => rfl))) (fun p826 _ => Sub.refl _) (fun p826 _ => Sub.refl _)) (fun _ => rfl)) (fun _ => ()) (fun p => (.drop (.drop (.drop (.drop (.drop (.drop (.drop (.keep (.keep (.keep (.keep Sub.nil)))))))))))))))))))))))))))
    (by first | (unfold m__law_fault; dsimp only [id]; done) | (unfold m__law_fault; dsimp only [id]; rfl) | rfl)
abbrev n__law_worked : List Str := ["orders", "keys", "left", "order", "ends", "pieces", "now", "able", "k"]
theorem sc__law_worked : FnScope n__law_worked ["orders", "keys"] (defScope s__law_worked) := ⟨rfl, rfl, rfl, by decide +kernel, rfl, by decide +kernel, by decide +kernel⟩
abbrev sp__law_worked (K : Fg) (fu : Nat) : Sp := spP K (fun a : (List (Int × Int × Int)) × (List Int) × Unit => [.st none (List (Int × Int × Int)) (it (eL (eT3 eI eI eI))) a.1, .st none (List Int) (it (eL eI)) a.2.1]) (it (eT2 (eL (eT3 eI eI eI)) (eL (eO eI nnI)))) (fun a => m__law_worked fu a.1 a.2.1)
set_option maxHeartbeats 0 in
theorem ok__law_worked (fa : Fa K mg) (fu : Nat) : FnOk P w K mg base CX0 1 fa.f__law_worked fa.fd__law_worked ["orders", "keys"] (sp__law_worked K fu) := by
  refine fnP fa.F__law_worked sc__law_worked 7 rfl (fun _ => rfl) fun cdv A' outer s H E hr => ?_
  have nd := sc__law_worked.nd
  have hu := hr.units
  have hu5 : (A'.deeper (envOfC "_law_worked" (defScope s__law_worked) s.heap.objs.size fa.f__law_worked cdv)).units + 65 < cLine := by have := hr.un; omega
  rintro ⟨a_orders, a_keys, _⟩
  exact lb_use (env := [.st none (List (Int × Int × Int)) (it (eL (eT3 eI eI eI))) a_orders, .st none (List Int) (it (eL eI)) a_keys, .un, .un, .un, .un, .un, .un, .un])
    (lb_set 2 nd (lx_lc (envT := (fun t835 : Unit => [.st none (List (Int × Int × Int)) (it (eL (eT3 eI eI eI))) a_orders, .st none (List Int) (it (eL eI)) a_keys, .un, .un, .un, .un, .un, .un, .un])) rfl nd (blkOk_by (N := n__law_worked) (sc := defScope s__law_worked) (own := [("order", 3)]) (by decide +kernel)) (li_list lm_sh.w (lx_var 0 cp_it rfl)) (fun p834 => ()) (fun p834 => (Sub.refl _)) (by intro t i s hm he; simp at hm; subst hm; (have e := Option.some.inj he; exact e.symm)) (fun _ _ _ _ _ t835 => (lg_name 3 nd)) (fun _ _ _ _ _ t835 x836 => ltl_nil) (fun _ _ _ _ _ t835 x836 p837 => (lx_part part3_1 (lx_var 3 cp_it rfl))) (fun t835 x836 p837 p838 => ()) (fun t835 x836 p837 p838 => by exact (.keep (.keep (.keep (.drop (.keep (.keep (.keep (.keep (.keep Sub.nil)))))))))) (fun t835 x836 p837 => ()) (fun t835 x836 p837 => by exact (.keep (.keep (.keep (.drop (.keep (.keep (.keep (.keep (.keep Sub.nil))))))))))) (fun v_left_842 p843 => (lb_setLc (envT := (fun t845 : Unit => [.st none (List (Int × Int × Int)) (it (eL (eT3 eI eI eI))) a_orders, .st none (List Int) (it (eL eI)) a_keys, .st none (List Int) (ls (it eI)) v_left_842, .un, .un, .un, .un, .un, .un])) rfl nd (blkOk_by (N := n__law_worked) (sc := defScope s__law_worked) (own := [("order", 3)]) (by decide +kernel)) 4 (li_list lm_sh.w (lx_var 0 cp_it rfl)) (fun p844 => ()) (fun p844 => (Sub.refl _)) (by intro t i s hm he; simp at hm; subst hm; (have e := Option.some.inj he; exact e.symm)) (fun _ _ _ _ _ t845 => (lg_name 3 nd)) (fun _ _ _ _ _ t845 x846 => ltl_nil) (fun _ _ _ _ _ t845 x846 p847 => (lx_some (E := eI) lx_int)) (fun t845 x846 p847 p848 => ()) (fun t845 x846 p847 p848 => by exact (.keep (.keep (.keep (.drop (.keep (.keep (.keep (.keep (.keep Sub.nil)))))))))) (fun t845 x846 p847 => ()) (fun t845 x846 p847 => by exact (.keep (.keep (.keep (.drop (.keep (.keep (.keep (.keep (.keep Sub.nil)))))))))) (fun v_ends_852 p853 => (lb_set 5 nd (lx_list la_nil (eT3 eI eI eI) (fun _ => []) (fun _ => .nil)) (fun v_pieces_854 p855 => (lb_set 6 nd lx_int (fun v_now_856 p857 => (lb_while (envT := (fun t858 : ((List Int) × (List (Option Int)) × (List (Int × Int × Int)) × Int) => [.st none (List (Int × Int × Int)) (it (eL (eT3 eI eI eI))) a_orders, .st none (List Int) (it (eL eI)) a_keys, .st none (List Int) (ls (it eI)) t858.1, .un, .st none (List (Option Int)) (ls (it (eO eI nnI))) t858.2.1, .st none (List (Int × Int × Int)) (ls (it (eT3 eI eI eI))) t858.2.2.1, .st none Int (it eI) t858.2.2.2, .un, .un])) fu PassesOwn.never (v_left_842, v_ends_852, v_pieces_854, v_now_856) (Sub.refl _) (fun t858 => (lt_cmp (lc_gt (lx_sum rfl lm_ow.w fa.z_sum (lo_var 2 rfl) (fun _ => rfl)) (fun p862 => lx_int)) (nomark _))) (fun t858 p861 => Sub.refl _) (fun t858 p861 kc859 kb860 => (lb_set 7 nd (lx_sorted hu (odT2 evI odI odI) soT2 (dtT2 dtI dtI) lm_ow.w fa.z_sorted (lo_of (lx_lc (envT := (fun t864 : Unit => [.st none (List (Int × Int × Int)) (it (eL (eT3 eI eI eI))) a_orders, .st none (List Int) (it (eL eI)) a_keys, .st none (List Int) (ls (it eI)) t858.1, .un, .st none (List (Option Int)) (ls (it (eO eI nnI))) t858.2.1, .st none (List (Int × Int × Int)) (ls (it (eT3 eI eI eI))) t858.2.2.1, .st none Int (it eI) t858.2.2.2, .un, .un])) rfl nd (blkOk_by (N := n__law_worked) (sc := defScope s__law_worked) (own := [("k", 8)]) (by decide +kernel)) (li_range1 (by rfl) fa.z_range (lx_len lm_sh.w fa.z_len (lo_of (lx_var 0 cp_it rfl)) (fun _ => trivial))) (fun p863 => ()) (fun p863 => (Sub.refl _)) (by intro t i s hm he; simp at hm; subst hm; (have e := Option.some.inj he; exact e.symm)) (fun _ _ _ _ _ t864 => (lg_name 8 nd)) (fun _ _ _ _ _ t864 x865 => (ltl_one (lt_cut (lt_w (lw_and (lt_cmp (lc_le (lx_part part3_0 (lx_ix lm_sh.w (lo_of (lx_var 0 cp_it rfl)) (fun p866 => (lx_var 8 cp_it rfl)) (fun _ _ => trivial))) (fun p868 => (lx_var 6 cp_it rfl))) (nomark _)) (fun p869 => (lw_and1 (lt_cmp (lc_gt (lx_ix lm_ow.w (lo_var 2 rfl) (fun p870 => (lx_var 8 cp_it rfl)) (fun _ _ => rfl)) (fun p872 => lx_int)) (nomark _)))) (fun p869 _ => Sub.refl _))) (fun _ => rfl)))) (fun _ _ _ _ _ t864 x865 p874 => (lx_tup (la_cons (lx_ix lm_sh.w (lo_of (lx_var 1 cp_it rfl)) (fun p875 => (lx_var 8 cp_it rfl)) (fun _ _ => trivial)) (fun p877 => (la_cons (lx_var 8 cp_it rfl) (fun p878 => la_nil)))) (eT2 eI eI) (fun a : Int × Int × Unit => (a.1, a.2.1)) (fun a => [eI.enc a.1, eI.enc a.2.1]) (fun _ => (.cons (.cons .nil))) (fun _ => rfl))) (fun t864 x865 p874 p879 => ()) (fun t864 x865 p874 p879 => by exact (.keep (.keep (.keep (.keep (.keep (.keep (.keep (.keep (.drop Sub.nil)))))))))) (fun t864 x865 p874 => ()) (fun t864 x865 p874 => by exact (.keep (.keep (.keep (.keep (.keep (.keep (.keep (.keep (.drop Sub.nil)))))))))))) (fun _ => trivial)) (fun v_able_884 p885 => by exact (lb_if (env1 := (fun j888 : ((List Int) × (List (Option Int)) × (List (Int × Int × Int))) => [.st none (List (Int × Int × Int)) (it (eL (eT3 eI eI eI))) a_orders, .st none (List Int) (it (eL eI)) a_keys, .st none (List Int) (ls (it eI)) j888.1, .un, .st none (List (Option Int)) (ls (it (eO eI nnI))) j888.2.1, .st none (List (Int × Int × Int)) (ls (it (eT3 eI eI eI))) j888.2.2, .st none Int (it eI) t858.2.2.2, .st none (List (Int × Int)) (ls (it (eT2 eI eI))) v_able_884, .un])) (lt_cmp (lc_gt (lx_len lm_ow.w fa.z_len (lo_var 7 rfl) (fun _ => rfl)) (fun p886 => lx_int)) (nomark _)) (fun p887 => (lb_set 8 nd (lx_part part2_1 (lx_ix lm_ow.w (lo_var 7 rfl) (fun p890 => lx_int) (fun _ _ => rfl))) (fun v_k_892 p893 => (lb_if (env1 := (fun j903 : (List (Int × Int × Int)) => [.st none (List (Int × Int × Int)) (it (eL (eT3 eI eI eI))) a_orders, .st none (List Int) (it (eL eI)) a_keys, .st none (List Int) (ls (it eI)) t858.1, .un, .st none (List (Option Int)) (ls (it (eO eI nnI))) t858.2.1, .st none (List (Int × Int × Int)) (ls (it (eT3 eI eI eI))) j903, .st none Int (it eI) t858.2.2.2, .st none (List (Int × Int)) (ls (it (eT2 eI eI))) v_able_884, .st none Int (it eI) v_k_892])) (lt_cut (lt_w (lw_and (lt_cmp (lc_gt (lx_len lm_ow.w fa.z_len (lo_var 5 rfl) (fun _ => rfl)) (fun p894 => lx_int)) (nomark _)) (fun p895 => (lw_and1 (lt_cmp (lc_eqT hu dv_it dv_it (dtT2 dtI dtI) (evT2 evI evI) (lo_of (lx_cutL (E' := (eT2 eI eI)) (g := fun x : (Int × Int × Int) => (x.2.1, x.2.2)) ⟨fun _ => ⟨_, rfl, rfl⟩⟩ (lx_ix lm_ow.w (lo_var 5 rfl) (fun p896 => (lx_neg lx_int)) (fun _ _ => rfl)))) (fun p898 => (lo_of (lx_tup (la_cons (lx_var 6 cp_it rfl) (fun p899 => (la_cons (lx_var 8 cp_it rfl) (fun p900 => la_nil)))) (eT2 eI eI) (fun a : Int × Int × Unit => (a.1, a.2.1)) (fun a => [eI.enc a.1, eI.enc a.2.1]) (fun _ => (.cons (.cons .nil))) (fun _ => rfl)))) (fun _ _ => trivial) (fun _ _ => trivial)) (nomark _)))) (fun p895 _ => Sub.refl _))) (fun _ => rfl)) (fun p902 => (lb_setix 5 (lx_tup (la_cons (lx_part part3_0 (lx_ix lm_ow.w (lo_var 5 rfl) (fun p905 => (lx_neg lx_int)) (fun _ _ => rfl))) (fun p907 => (la_cons (lx_add (lx_var 6 cp_it rfl) (fun p908 => lx_int)) (fun p909 => (la_cons (lx_var 8 cp_it rfl) (fun p910 => la_nil)))))) (eT3 eI eI eI) (fun a : Int × Int × Int × Unit => (a.1, a.2.1, a.2.2.1)) (fun a => [eI.enc a.1, eI.enc a.2.1, eI.enc a.2.2.1]) (fun _ => (.cons (.cons (.cons .nil)))) (fun _ => rfl)) (fun _ => rfl) (fun y911 p912 => (lx_neg lx_int)) (fun _ _ _ => rfl) (fun y911 p912 j913 p914 z915 => (lb_end z915 (Sub.refl _))))) (fun p902 => (lb_app 5 rfl (lx_tup (la_cons (lx_var 6 cp_it rfl) (fun p919 => (la_cons (lx_add (lx_var 6 cp_it rfl) (fun p920 => lx_int)) (fun p921 => (la_cons (lx_var 8 cp_it rfl) (fun p922 => la_nil)))))) (eT3 eI eI eI) (fun a : Int × Int × Int × Unit => (a.1, a.2.1, a.2.2.1)) (fun a => [eI.enc a.1, eI.enc a.2.1, eI.enc a.2.2.1]) (fun _ => (.cons (.cons (.cons .nil)))) (fun _ => rfl)) (fun _ => rfl) (fun y918 p917 => (lb_end (t858.2.2.1 ++ [y918]) (Sub.refl _))))) (fun j903 => (lb_setix 2 (lx_sub (lx_ix lm_ow.w (lo_var 2 rfl) (fun p924 => (lx_var 8 cp_it rfl)) (fun _ _ => rfl)) (fun p926 => lx_int)) (fun _ => rfl) (fun y927 p928 => (lx_var 8 cp_it rfl)) (fun _ _ _ => rfl) (fun y927 p928 j929 p930 z931 => (lb_setix 4 (lx_some (E := eI) (lx_add (lx_var 6 cp_it rfl) (fun p932 => lx_int))) (fun _ => rfl) (fun y933 p934 => (lx_var 8 cp_it rfl)) (fun _ _ _ => rfl) (fun y933 p934 j935 p936 z937 => (lb_end (z931, z937, j903) (.keep (.keep (.keep (.keep (.keep (.keep (.keep (.keep (.drop Sub.nil))))))))))))))))))) (fun p887 => (lb_end (t858.1, t858.2.1, t858.2.2.1) (Sub.refl _))) (fun j888 => (lb_set 6 nd (lx_add (lx_var 6 cp_it rfl) (fun p941 => lx_int)) (fun v_now_942 p943 => (lb_end (j888.1, j888.2.1, j888.2.2, v_now_942) (.keep (.keep (.keep (.keep (.keep (.keep (.keep (.drop (.keep Sub.nil))))))))))))))))) (fun t945 => (lb_ret (lx_tup (la_cons (lx_frz 5 (fz_ls fz_it) rfl) (fun p946 => (la_cons (lx_frz 4 (fz_ls fz_it) rfl) (fun p947 => la_nil)))) (eT2 (eL (eT3 eI eI eI)) (eL (eO eI nnI))) (fun a : (List (Int × Int × Int)) × (List (Option Int)) × Unit => (a.1, a.2.1)) (fun a => [(eL (eT3 eI eI eI)).enc a.1, (eL (eO eI nnI)).enc a.2.1]) (fun _ => (.cons (.cons .nil))) (fun _ => rfl)) (fun _ => ()) (fun p => (.drop (.drop (.drop (.keep (.drop (.drop (.drop (.keep (.keep Sub.nil)))))))))))))))))) (sw_true rfl rfl rfl (by decide +kernel)))))
    (by first | (unfold m__law_worked; dsimp only [id]; done) | (unfold m__law_worked; dsimp only [id]; rfl) | rfl)
abbrev n_law : List Str := ["script", "state", "orders", "kept", "dues", "order", "told", "sets", "k", "row", "holds", "turn", "pieces", "ends", "late"]
theorem sc_law : FnScope n_law ["script"] (defScope s_law) := ⟨rfl, rfl, rfl, by decide +kernel, rfl, by decide +kernel, by decide +kernel⟩
abbrev sp_law (K : Fg) (fu : Nat) : Sp := spP K (fun a : List Int × Unit => [.st none (List Int) scr a.1]) (it eB) (fun a => m_law fu a.1)
set_option maxHeartbeats 0 in
theorem ok_law (fa : Fa K mg) (fu : Nat) : FnG P w K mg base 5 fa.f_law fa.fd_law ["script"] (sp_law K fu) := by
  refine fnPG fa.F_law sc_law 14 rfl (fun _ => rfl) fun cdv A' outer s H E hgd hr => ?_
  have nd := sc_law.nd
  have hu := hr.units
  have hu5 : (A'.deeper (envOfC "law" (defScope s_law) s.heap.objs.size fa.f_law cdv)).units + 65 < cLine := by have := hr.un; omega
  rintro ⟨a_script, _⟩
  exact lb_use (env := [.st none (List Int) scr a_script, .un, .un, .un, .un, .un, .un, .un, .un, .un, .un, .un, .un, .un, .un])
    (lb_set 1 nd (lx_call (ok__law_state fa) (hr.mono (by decide)) fa.g__law_state fa.F__law_state.kp fa.b__law_state (fun _ => (.cons cp_scr .nil)) (la_cons (lx_var 0 cp_scr rfl) (fun p949 => la_nil))) (fun v_state_951 p952 => (lb_set 2 nd (lx_callI 1 (ok__law_orders fa) (hr.mono (by decide)) fa.g__law_orders fa.F__law_orders.kp fa.b__law_orders (fun _ => (.cons cp_it .nil)) rfl (la_cons lx_int (fun p953 => la_nil)) (fun _ => rfl)) (fun v_orders_955 p956 => (lb_set 3 nd (lx_repr hgd hu dv_it fa.z_repr (lo_of (lx_var 2 cp_it rfl)) (fun _ => trivial)) (fun v_kept_958 p959 => (lb_setLc (envT := (fun t961 : Unit => [.st none (List Int) scr a_script, .st none TSt stT p956.2, .st none (List (Int × Int × Int)) (it (eL (eT3 eI eI eI))) v_orders_955, .st none Str (it eS) v_kept_958, .un, .un, .un, .un, .un, .un, .un, .un, .un, .un, .un])) rfl nd (blkOk_by (N := n_law) (sc := defScope s_law) (own := [("order", 5)]) (by decide +kernel)) 4 (li_list lm_sh.w (lx_var 2 cp_it rfl)) (fun p960 => ()) (fun p960 => (Sub.refl _)) (by intro t i s hm he; simp at hm; subst hm; (have e := Option.some.inj he; exact e.symm)) (fun _ _ _ _ _ t961 => (lg_name 5 nd)) (fun _ _ _ _ _ t961 x962 => ltl_nil) (fun _ _ _ _ _ t961 x962 p963 => (lx_part part3_2 (lx_var 5 cp_it rfl))) (fun t961 x962 p963 p964 => ()) (fun t961 x962 p963 p964 => by exact (.keep (.keep (.keep (.keep (.keep (.drop (.keep (.keep (.keep (.keep (.keep (.keep (.keep (.keep (.keep Sub.nil)))))))))))))))) (fun t961 x962 p963 => ()) (fun t961 x962 p963 => by exact (.keep (.keep (.keep (.keep (.keep (.drop (.keep (.keep (.keep (.keep (.keep (.keep (.keep (.keep (.keep Sub.nil)))))))))))))))) (fun v_dues_968 p969 => (lb_frz 4 (fz_ls fz_it) rfl (lb_ifr (lt_cut (lt_w (lw_or (lt_cmp (lc_neC hu dv_it dv_it (lo_of (lx_call (ok_worked fa fu) (hr.mono (by decide)) fa.g_worked fa.F_worked.kp fa.b_worked (fun _ => (.cons cp_it .nil)) (la_cons (lx_var 2 cp_it rfl) (fun p980 => la_nil)))) (fun p982 => (lo_of (lx_call (ok__law_worked fa fu) (hr.mono (by decide)) fa.g__law_worked fa.F__law_worked.kp fa.b__law_worked (fun _ => (.cons cp_it (.cons cp_it .nil))) (la_cons (lx_var 2 cp_it rfl) (fun p983 => (la_cons (lx_var 4 cp_it rfl) (fun p984 => la_nil))))))) (fun _ _ => trivial) (fun _ _ => trivial)) (nomark _)) (fun p986 => (lw_or1 (lt_cmp (lc_neS (lx_repr hgd hu dv_it fa.z_repr (lo_of (lx_var 2 cp_it rfl)) (fun _ => trivial)) (fun p988 => (lx_var 3 cp_it rfl))) (nomark _)))) (fun p986 _ => Sub.refl _))) (fun _ => rfl)) (fun p990 => (lb_ret lx_bl (fun _ => ()) (fun p => (.drop (.drop (.drop (.drop (.drop (.keep (.keep (.keep (.keep (.keep (.keep (.keep (.keep (.keep (.keep Sub.nil)))))))))))))))))) (fun p990 => (lb_set 6 nd (lx_call (ok_days fa fu) (hr.mono (by decide)) fa.g_days fa.F_days.kp fa.b_days (fun _ => (.cons cp_it .nil)) (la_cons (lx_var 2 cp_it rfl) (fun p991 => la_nil))) (fun v_told_993 p994 => (lb_ifr (lt_cut (lt_w (lw_or (lt_not (lt_val (lx_isT (fun _ => ⟨_, rfl⟩) fa.z_isinstance fa.z_tuple (lx_var 6 cp_it rfl)))) (fun p995 => (lw_or (lt_cmp (lc_notN (lx_call (ok__law_fault fa) (hr.mono (by decide)) fa.g__law_fault fa.F__law_fault.kp fa.b__law_fault (fun _ => (.cons cp_it (.cons cp_it .nil))) (la_cons (lx_var 2 cp_it rfl) (fun p996 => (la_cons (lx_var 6 cp_it rfl) (fun p997 => la_nil)))))) (nomark _)) (fun p999 => (lw_or1 (lt_cmp (lc_notN (lx_call (ok_days_fault fa) (hr.mono (by decide)) fa.g_days_fault fa.F_days_fault.kp fa.b_days_fault (fun _ => (.cons cp_it (.cons cp_it .nil))) (la_cons (lx_var 2 cp_it rfl) (fun p1000 => (la_cons (lx_var 6 cp_it rfl) (fun p1001 => la_nil)))))) (nomark _)))) (fun p999 _ => Sub.refl _))) (fun p995 _ => Sub.refl _))) (fun _ => rfl)) (fun p1004 => (lb_ret lx_bl (fun _ => ()) (fun p => (.drop (.drop (.drop (.drop (.drop (.keep (.drop (.keep (.keep (.keep (.keep (.keep (.keep (.keep (.keep Sub.nil)))))))))))))))))) (fun p1004 => (lb_ifr (lt_cmp (lc_eqI (lx_len lm_sh.w fa.z_len (lo_of (lx_var 2 cp_it rfl)) (fun _ => trivial)) (fun p1005 => lx_int)) (nomark _)) (fun p1006 => (lb_ret lx_bl (fun _ => ()) (fun p => (.drop (.drop (.drop (.drop (.drop (.keep (.drop (.keep (.keep (.keep (.keep (.keep (.keep (.keep (.keep Sub.nil)))))))))))))))))) (fun p1006 => (lb_set 7 nd (lx_list (la_cons (lx_sh (fz_ls fz_it) (lx_list la_nil eI (fun _ => []) (fun _ => .nil))) (fun p1007 => la_nil)) (eL eI) (fun a : (List Int) × Unit => [a.1]) (fun _ => (.cons .nil))) (fun v_sets_1008 p1009 => (lb_for (envT := (fun t1011 : (List (List Int)) => [.st none (List Int) scr a_script, .st none TSt stT p956.2, .st none (List (Int × Int × Int)) (it (eL (eT3 eI eI eI))) v_orders_955, .st none Str (it eS) v_kept_958, .st none (List Int) (it (eL eI)) v_dues_968, .un, .st none ((Option Int) × (List (Int × Int × Int)) × (List Int)) (it (eT3 (eO eI nnI) (eL (eT3 eI eI eI)) (eL eI))) v_told_993, .st none (List (List Int)) (ls (it (eL eI))) t1011, .un, .un, .un, .un, .un, .un, .un])) PassesOwn.never rfl (li_range1 (by rfl) fa.z_range (lx_len lm_sh.w fa.z_len (lo_of (lx_var 2 cp_it rfl)) (fun _ => trivial))) (fun p1010 => v_sets_1008) (fun p1010 => (Sub.refl _)) (fun t1011 => (lg_name 8 nd)) (fun x1012 t1011 kc1013 kb1014 => (lb_frz 7 (fz_ls fz_it) rfl (lb_set 7 nd (lx_cat lm_sh lm_ow (lo_of (lx_var 7 cp_it rfl)) (fun p1028 => (lo_of (lx_lc (envT := (fun t1030 : Unit => [.st none (List Int) scr a_script, .st none TSt stT p956.2, .st none (List (Int × Int × Int)) (it (eL (eT3 eI eI eI))) v_orders_955, .st none Str (it eS) v_kept_958, .st none (List Int) (it (eL eI)) v_dues_968, .un, .st none ((Option Int) × (List (Int × Int × Int)) × (List Int)) (it (eT3 (eO eI nnI) (eL (eT3 eI eI eI)) (eL eI))) v_told_993, .st none (List (List Int)) (it (eL (eL eI))) t1011, .st none Int (it eI) x1012, .un, .un, .un, .un, .un, .un])) rfl nd (blkOk_by (N := n_law) (sc := defScope s_law) (own := [("row", 9)]) (by decide +kernel)) (li_list lm_sh.w (lx_var 7 cp_it rfl)) (fun p1029 => ()) (fun p1029 => (Sub.refl _)) (by intro t i s hm he; simp at hm; subst hm; (have e := Option.some.inj he; exact e.symm)) (fun _ _ _ _ _ t1030 => (lg_name 9 nd)) (fun _ _ _ _ _ t1030 x1031 => ltl_nil) (fun _ _ _ _ _ t1030 x1031 p1032 => (lx_sh (fz_ls fz_it) (lx_cat lm_sh lm_ow (lo_of (lx_var 9 cp_it rfl)) (fun p1033 => (lo_of (lx_list (la_cons (lx_var 8 cp_it rfl) (fun p1034 => la_nil)) eI (fun a : Int × Unit => [a.1]) (fun _ => (.cons .nil))))) (fun _ _ => trivial) (fun _ _ => trivial)))) (fun t1030 x1031 p1032 p1037 => ()) (fun t1030 x1031 p1032 p1037 => by exact (.keep (.keep (.keep (.keep (.keep (.keep (.keep (.keep (.keep (.drop (.keep (.keep (.keep (.keep (.keep Sub.nil)))))))))))))))) (fun t1030 x1031 p1032 => ()) (fun t1030 x1031 p1032 => by exact (.keep (.keep (.keep (.keep (.keep (.keep (.keep (.keep (.keep (.drop (.keep (.keep (.keep (.keep (.keep Sub.nil))))))))))))))))))) (fun _ _ => trivial) (fun _ _ => trivial)) (fun v_sets_1043 p1044 => by exact (lb_end v_sets_1043 (.keep (.keep (.keep (.keep (.keep (.keep (.keep (.keep (.drop (.keep (.keep (.keep (.keep (.keep (.keep Sub.nil)))))))))))))))))))) (fun t1045 => (lb_setLc (envT := (fun t1047 : Unit => [.st none (List Int) scr a_script, .st none TSt stT p956.2, .st none (List (Int × Int × Int)) (it (eL (eT3 eI eI eI))) v_orders_955, .st none Str (it eS) v_kept_958, .st none (List Int) (it (eL eI)) v_dues_968, .un, .st none ((Option Int) × (List (Int × Int × Int)) × (List Int)) (it (eT3 (eO eI nnI) (eL (eT3 eI eI eI)) (eL eI))) v_told_993, .st none (List (List Int)) (it (eL (eL eI))) t1045, .un, .un, .un, .un, .un, .un, .un])) rfl nd (blkOk_by (N := n_law) (sc := defScope s_law) (own := [("row", 9)]) (by decide +kernel)) 10 (li_list lm_sh.w (lx_frz 7 (fz_ls fz_it) rfl)) (fun p1046 => ()) (fun p1046 => (Sub.refl _)) (by intro t i s hm he; simp at hm; subst hm; (have e := Option.some.inj he; exact e.symm)) (fun _ _ _ _ _ t1047 => (lg_name 9 nd)) (fun _ _ _ _ _ t1047 x1048 => (ltl_one (lt_cmp (lc_gt (lx_len lm_sh.w fa.z_len (lo_of (lx_var 9 cp_it rfl)) (fun _ => trivial)) (fun p1049 => lx_int)) (nomark _)))) (fun _ _ _ _ _ t1047 x1048 p1050 => (lx_call (ok__law_held fa) (hr.mono (by decide)) fa.g__law_held fa.F__law_held.kp fa.b__law_held (fun _ => (.cons cp_it (.cons cp_it .nil))) (la_cons (lx_var 2 cp_it rfl) (fun p1051 => (la_cons (lx_var 9 cp_it rfl) (fun p1052 => la_nil)))))) (fun t1047 x1048 p1050 p1054 => ()) (fun t1047 x1048 p1050 p1054 => by exact (.keep (.keep (.keep (.keep (.keep (.keep (.keep (.keep (.keep (.drop (.keep (.keep (.keep (.keep (.keep Sub.nil)))))))))))))))) (fun t1047 x1048 p1050 => ()) (fun t1047 x1048 p1050 => by exact (.keep (.keep (.keep (.keep (.keep (.keep (.keep (.keep (.keep (.drop (.keep (.keep (.keep (.keep (.keep Sub.nil)))))))))))))))) (fun v_holds_1058 p1059 => (lb_ifr (lt_cmp (lc_neC hu dv_it dv_it (lo_of (lx_part part3_0 (lx_var 6 cp_it rfl))) (fun p1060 => (lo_of (lx_maxI rfl lm_ow.w fa.z_max (lo_var 10 rfl) (fun _ => rfl)))) (fun _ _ => trivial) (fun _ _ => trivial)) (nomark _)) (fun p1062 => (lb_ret lx_bl (fun _ => ()) (fun p => (.drop (.drop (.drop (.drop (.drop (.keep (.drop (.drop (.keep (.keep (.drop (.keep (.keep (.keep (.keep Sub.nil)))))))))))))))))) (fun p1062 => (lb_for (envT := (fun t1064 : Unit => [.st none (List Int) scr a_script, .st none TSt stT p956.2, .st none (List (Int × Int × Int)) (it (eL (eT3 eI eI eI))) v_orders_955, .st none Str (it eS) v_kept_958, .st none (List Int) (it (eL eI)) v_dues_968, .un, .st none ((Option Int) × (List (Int × Int × Int)) × (List Int)) (it (eT3 (eO eI nnI) (eL (eT3 eI eI eI)) (eL eI))) v_told_993, .st none (List (List Int)) (it (eL (eL eI))) t1045, .un, .un, .st none (List Int) (ls (it eI)) v_holds_1058, .un, .un, .un, .un])) PassesOwn.never rfl (li_list lm_sh.w (lx_var 7 cp_it rfl)) (fun p1063 => ()) (fun p1063 => (Sub.refl _)) (fun t1064 => (lg_name 9 nd)) (fun x1065 t1064 kc1066 kb1067 => (lb_ifr (lt_cut (lt_w (lw_and (lt_cmp (lc_gt (lx_len lm_sh.w fa.z_len (lo_of (lx_var 9 cp_it rfl)) (fun _ => trivial)) (fun p1068 => lx_int)) (nomark _)) (fun p1069 => (lw_and1 (lt_cmp (lc_neI (lx_call (ok_held_by fa) (hr.mono (by decide)) fa.g_held_by fa.F_held_by.kp fa.b_held_by (fun _ => (.cons cp_it (.cons cp_it .nil))) (la_cons (lx_var 2 cp_it rfl) (fun p1070 => (la_cons (lx_var 9 cp_it rfl) (fun p1071 => la_nil))))) (fun p1073 => (lx_call (ok__law_held fa) (hr.mono (by decide)) fa.g__law_held fa.F__law_held.kp fa.b__law_held (fun _ => (.cons cp_it (.cons cp_it .nil))) (la_cons (lx_var 2 cp_it rfl) (fun p1074 => (la_cons (lx_var 9 cp_it rfl) (fun p1075 => la_nil))))))) (nomark _)))) (fun p1069 _ => Sub.refl _))) (fun _ => rfl)) (fun p1078 => (lb_ret lx_bl (fun _ => ()) (fun p => (.drop (.drop (.drop (.drop (.drop (.keep (.drop (.drop (.keep (.drop (.drop (.keep (.keep (.keep (.keep Sub.nil)))))))))))))))))) (fun p1078 => (lb_ifr (lt_cut (lt_w (lw_and (lt_cmp (lc_gt (lx_len lm_sh.w fa.z_len (lo_of (lx_var 9 cp_it rfl)) (fun _ => trivial)) (fun p1079 => lx_int)) (nomark _)) (fun p1080 => (lw_and1 (lt_cmp (lc_neC hu dv_it dv_it (lo_of (lx_call (ok_days_fault fa) (hr.mono (by decide)) fa.g_days_fault fa.F_days_fault.kp fa.b_days_fault (fun _ => (.cons cp_it (.cons cp_it .nil))) (la_cons (lx_var 2 cp_it rfl) (fun p1081 => (la_cons (lx_catT (E3 := (eT3 (eO eI nnI) (eL (eT3 eI eI eI)) (eL eI))) (g := fun (x : ((Option Int) × (List (Int × Int × Int)))) (y : ((List Int))) => (x.1, x.2, y)) ⟨fun _ _ => ⟨_, _, rfl, rfl, rfl, Nat.le_of_ble_eq_true rfl⟩⟩ (lx_cutR (E' := (eT2 (eO eI nnI) (eL (eT3 eI eI eI)))) (g := fun x : ((Option Int) × (List (Int × Int × Int)) × (List Int)) => (x.1, x.2.1)) ⟨fun _ => ⟨_, rfl, rfl⟩⟩ (lx_var 6 cp_it rfl)) (fun p1082 => (lx_tup (la_cons (lx_var 9 cp_it rfl) (fun p1083 => la_nil)) (eT1 (eL eI)) (fun a : (List Int) × Unit => (a.1)) (fun a => [(eL eI).enc a.1]) (fun _ => (.cons .nil)) (fun _ => rfl)))) (fun p1084 => la_nil)))))) (fun p1086 => (lo_of (lx_cut (lx_if (S := (it eD)) (lt_cmp (lc_ge (lx_call (ok__law_held fa) (hr.mono (by decide)) fa.g__law_held fa.F__law_held.kp fa.b__law_held (fun _ => (.cons cp_it (.cons cp_it .nil))) (la_cons (lx_var 2 cp_it rfl) (fun p1087 => (la_cons (lx_var 9 cp_it rfl) (fun p1088 => la_nil))))) (fun p1090 => (lx_cast (E' := eI) (lx_part part3_0 (lx_var 6 cp_it rfl)) id (fun a b h => by have h : a = some b := h; subst h; rfl)))) (nomark _)) (fun p1092 => (lx_as (E' := eD) lx_non eN.enc (fun _ => rfl))) (fun p1092 => (lx_tup (la_cons lx_str (fun p1093 => la_nil)) eD (fun a : Str × Unit => PyData.tuple [eS.enc a.1]) (fun a => [eS.enc a.1]) (fun _ => (.cons .nil)) (fun _ => rfl))) (fun p1092 _ => Sub.refl _) (fun p1092 _ => Sub.refl _)) (fun _ => rfl)))) (fun _ _ => trivial) (fun _ _ => trivial)) (nomark _)))) (fun p1080 _ => Sub.refl _))) (fun _ => rfl)) (fun p1096 => (lb_ret lx_bl (fun _ => ()) (fun p => (.drop (.drop (.drop (.drop (.drop (.keep (.drop (.drop (.keep (.drop (.drop (.keep (.keep (.keep (.keep Sub.nil)))))))))))))))))) (fun p1096 => (lb_end () (.keep (.keep (.keep (.keep (.keep (.keep (.keep (.keep (.keep (.drop (.keep (.keep (.keep (.keep (.keep Sub.nil))))))))))))))))))))) (fun t1101 => (lb_for (envT := (fun t1103 : TSt => [.st none (List Int) scr a_script, .st none TSt stT t1103, .st none (List (Int × Int × Int)) (it (eL (eT3 eI eI eI))) v_orders_955, .st none Str (it eS) v_kept_958, .st none (List Int) (it (eL eI)) v_dues_968, .un, .st none ((Option Int) × (List (Int × Int × Int)) × (List Int)) (it (eT3 (eO eI nnI) (eL (eT3 eI eI eI)) (eL eI))) v_told_993, .st none (List (List Int)) (it (eL (eL eI))) t1045, .un, .un, .st none (List Int) (ls (it eI)) v_holds_1058, .un, .un, .un, .un])) PassesOwn.never rfl (li_range1 (by rfl) fa.z_range lx_int) (fun p1102 => p956.2) (fun p1102 => (Sub.refl _)) (fun t1103 => (lg_name 11 nd)) (fun x1104 t1103 kc1105 kb1106 => (lb_asg (lx_call (ok__law_worked fa fu) (hr.mono (by decide)) fa.g__law_worked fa.F__law_worked.kp fa.b__law_worked (fun _ => (.cons cp_it (.cons cp_it .nil))) (la_cons (lx_var 2 cp_it rfl) (fun p1107 => (la_cons (lx_sh (fz_ls fz_it) (lx_lc (envT := (fun t1109 : TSt => [.st none (List Int) scr a_script, .st none TSt stT t1109, .st none (List (Int × Int × Int)) (it (eL (eT3 eI eI eI))) v_orders_955, .st none Str (it eS) v_kept_958, .st none (List Int) (it (eL eI)) v_dues_968, .un, .st none ((Option Int) × (List (Int × Int × Int)) × (List Int)) (it (eT3 (eO eI nnI) (eL (eT3 eI eI eI)) (eL eI))) v_told_993, .st none (List (List Int)) (it (eL (eL eI))) t1045, .un, .un, .st none (List Int) (ls (it eI)) v_holds_1058, .st none Int (it eI) x1104, .un, .un, .un])) rfl nd (blkOk_by (N := n_law) (sc := defScope s_law) (own := [("order", 5)]) (by decide +kernel)) (li_list lm_sh.w (lx_var 2 cp_it rfl)) (fun p1108 => t1103) (fun p1108 => (Sub.refl _)) (by intro t i s hm he; simp at hm; subst hm; (have e := Option.some.inj he; exact e.symm)) (fun _ _ _ _ _ t1109 => (lg_name 5 nd)) (fun _ _ _ _ _ t1109 x1110 => ltl_nil) (fun _ _ _ _ _ t1109 x1110 p1111 => (lx_callI 1 (ok__law_take fa) (hr.mono (by decide)) fa.g__law_take fa.F__law_take.kp fa.b__law_take (fun _ => (.cons cp_it .nil)) rfl (la_cons lx_int (fun p1112 => la_nil)) (fun _ => rfl))) (fun t1109 x1110 p1111 p1114 => p1114.2) (fun t1109 x1110 p1111 p1114 => by exact (.keep (.keep (.keep (.keep (.keep (.drop (.keep (.keep (.keep (.keep (.keep (.keep (.keep (.keep (.keep Sub.nil)))))))))))))))) (fun t1109 x1110 p1111 => t1109) (fun t1109 x1110 p1111 => by exact (.keep (.keep (.keep (.keep (.keep (.drop (.keep (.keep (.keep (.keep (.keep (.keep (.keep (.keep (.keep Sub.nil)))))))))))))))))) (fun p1118 => la_nil))))) (fun p1121 => (lg_tup (E := (eT2 (eL (eT3 eI eI eI)) (eL (eO eI nnI)))) (lgs_cons (lg_name 12 nd) (fun _ => (lgs_cons (lg_name 13 nd) (fun _ => lgs_nil)))) (fun x => (x.1, x.2, ())) (fun a : (List (Int × Int × Int)) × (List (Option Int)) × Unit => [(eL (eT3 eI eI eI)).enc (a.1), (eL (eO eI nnI)).enc (a.2.1)]) (fun _ => (.cons (.cons .nil))) (fun _ => rfl) rfl (fun _ => rfl))) (fun x1120 p1121 => (lb_set 14 nd (lx_maxI rfl lm_ow.w fa.z_max (lo_of (lx_lc (envT := (fun t1123 : Unit => [.st none (List Int) scr a_script, .st none TSt stT p1121.2.1, .st none (List (Int × Int × Int)) (it (eL (eT3 eI eI eI))) v_orders_955, .st none Str (it eS) v_kept_958, .st none (List Int) (it (eL eI)) v_dues_968, .un, .st none ((Option Int) × (List (Int × Int × Int)) × (List Int)) (it (eT3 (eO eI nnI) (eL (eT3 eI eI eI)) (eL eI))) v_told_993, .st none (List (List Int)) (it (eL (eL eI))) t1045, .un, .un, .st none (List Int) (ls (it eI)) v_holds_1058, .st none Int (it eI) x1104, .st none (List (Int × Int × Int)) (it (eL (eT3 eI eI eI))) x1120.1, .st none (List (Option Int)) (it (eL (eO eI nnI))) x1120.2, .un])) rfl nd (blkOk_by (N := n_law) (sc := defScope s_law) (own := [("k", 8)]) (by decide +kernel)) (li_range1 (by rfl) fa.z_range (lx_len lm_sh.w fa.z_len (lo_of (lx_var 2 cp_it rfl)) (fun _ => trivial))) (fun p1122 => ()) (fun p1122 => (Sub.refl _)) (by intro t i s hm he; simp at hm; subst hm; (have e := Option.some.inj he; exact e.symm)) (fun _ _ _ _ _ t1123 => (lg_name 8 nd)) (fun _ _ _ _ _ t1123 x1124 => ltl_nil) (fun _ _ _ _ _ t1123 x1124 p1125 => (lx_sub (lx_cast (E' := eI) (lx_ix lm_sh.w (lo_of (lx_var 13 cp_it rfl)) (fun p1126 => (lx_var 8 cp_it rfl)) (fun _ _ => trivial)) id (fun a b h => by have h : a = some b := h; subst h; rfl)) (fun p1128 => (lx_part part3_2 (lx_ix lm_sh.w (lo_of (lx_var 2 cp_it rfl)) (fun p1129 => (lx_var 8 cp_it rfl)) (fun _ _ => trivial)))))) (fun t1123 x1124 p1125 p1132 => ()) (fun t1123 x1124 p1125 p1132 => by exact (.keep (.keep (.keep (.keep (.keep (.keep (.keep (.keep (.drop (.keep (.keep (.keep (.keep (.keep (.keep Sub.nil)))))))))))))))) (fun t1123 x1124 p1125 => ()) (fun t1123 x1124 p1125 => by exact (.keep (.keep (.keep (.keep (.keep (.keep (.keep (.keep (.drop (.keep (.keep (.keep (.keep (.keep (.keep Sub.nil)))))))))))))))))) (fun _ => trivial)) (fun v_late_1137 p1138 => by exact (lb_ifr (lt_cut (lt_w (lw_or (lt_cmp (lc_lt (lx_var 14 cp_it rfl) (fun p1139 => (lx_cast (E' := eI) (lx_part part3_0 (lx_var 6 cp_it rfl)) id (fun a b h => by have h : a = some b := h; subst h; rfl)))) (nomark _)) (fun p1141 => (lw_or1 (lt_cmp (lc_neC hu dv_it dv_it (lo_of (lx_call (ok_days_fault fa) (hr.mono (by decide)) fa.g_days_fault fa.F_days_fault.kp fa.b_days_fault (fun _ => (.cons cp_it (.cons cp_it .nil))) (la_cons (lx_var 2 cp_it rfl) (fun p1142 => (la_cons (lx_tup (la_cons (lx_some (E := eI) (lx_var 14 cp_it rfl)) (fun p1143 => (la_cons (lx_var 12 cp_it rfl) (fun p1144 => (la_cons (lx_part part3_2 (lx_var 6 cp_it rfl)) (fun p1145 => la_nil)))))) (eT3 (eO eI nnI) (eL (eT3 eI eI eI)) (eL eI)) (fun a : (Option Int) × (List (Int × Int × Int)) × (List Int) × Unit => (a.1, a.2.1, a.2.2.1)) (fun a => [(eO eI nnI).enc a.1, (eL (eT3 eI eI eI)).enc a.2.1, (eL eI).enc a.2.2.1]) (fun _ => (.cons (.cons (.cons .nil)))) (fun _ => rfl)) (fun p1146 => la_nil)))))) (fun p1148 => (lo_of (lx_cut (lx_if (S := (it eD)) (lt_cmp (lc_eqC hu dv_it dv_it (lo_of (lx_var 14 cp_it rfl)) (fun p1149 => (lo_of (lx_part part3_0 (lx_var 6 cp_it rfl)))) (fun _ _ => trivial) (fun _ _ => trivial)) (nomark _)) (fun p1150 => (lx_as (E' := eD) lx_non eN.enc (fun _ => rfl))) (fun p1150 => (lx_tup (la_cons lx_str (fun p1151 => la_nil)) eD (fun a : Str × Unit => PyData.tuple [eS.enc a.1]) (fun a => [eS.enc a.1]) (fun _ => (.cons .nil)) (fun _ => rfl))) (fun p1150 _ => Sub.refl _) (fun p1150 _ => Sub.refl _)) (fun _ => rfl)))) (fun _ _ => trivial) (fun _ _ => trivial)) (nomark _)))) (fun p1141 _ => Sub.refl _))) (fun _ => rfl)) (fun p1154 => (lb_ret lx_bl (fun _ => ()) (fun p => (.drop (.drop (.drop (.drop (.drop (.keep (.drop (.drop (.keep (.keep (.drop (.drop (.drop (.drop (.drop Sub.nil)))))))))))))))))) (fun p1154 => (lb_end p1121.2.1 (.keep (.keep (.keep (.keep (.keep (.keep (.keep (.keep (.keep (.keep (.keep (.drop (.drop (.drop (.drop Sub.nil))))))))))))))))))))))) (fun t1158 => (lb_ret (lx_cmp (lc_eqS (lx_repr hgd hu dv_it fa.z_repr (lo_of (lx_var 2 cp_it rfl)) (fun _ => trivial)) (fun p1160 => (lx_var 3 cp_it rfl))) (nomark _)) (fun _ => ()) (fun p => (.drop (.drop (.drop (.drop (.drop (.keep (.drop (.drop (.keep (.keep (.drop (.keep (.keep (.keep (.keep Sub.nil)))))))))))))))))))))))) (sw_true rfl rfl rfl (by decide +kernel))))))))))))))))) (sw_true rfl rfl rfl (by decide +kernel)))))))))
    (by first | (unfold m_law; dsimp only [id]; done) | (unfold m_law; dsimp only [id]; rfl) | rfl)
end
/-! ### k82: orders, sums -/
abbrev O3 := Int × Int × Int
def nth (O : List O3) (k : Int) : O3 := O.getD k.toNat (0, 0, 0)
structure OOk (O : List O3) : Prop where
  len : O.length ≤ 9
  bd : ∀ x ∈ O, (0 ≤ x.1 ∧ x.1 ≤ 100) ∧ (1 ≤ x.2.1 ∧ x.2.1 ≤ 100) ∧ 0 ≤ x.2.2 ∧ x.2.2 ≤ 300
theorem at_getD {α : Type} {xs : List α} {x : Int} (d : α) (h0 : 0 ≤ x) (h1 : x < xs.length) : atI xs x = some (xs.getD x.toNat d) := by
  obtain ⟨n, rfl⟩ := Int.eq_ofNat_of_zero_le h0
  have hn : n < xs.length := by omega
  rw [Z.atI_nat hn, List.getD_eq_getElem?_getD, Int.toNat_natCast, List.getElem?_eq_getElem hn]; rfl
theorem at_nth {O : List O3} {k : Int} (h0 : 0 ≤ k) (h1 : k < O.length) : atI O k = some (nth O k) := at_getD _ h0 h1
theorem nth_mem {O : List O3} {k : Int} (h0 : 0 ≤ k) (h1 : k < O.length) : nth O k ∈ O := by
  obtain ⟨n, rfl⟩ := Int.eq_ofNat_of_zero_le h0
  have hn : n < O.length := by omega
  unfold nth
  rw [List.getD_eq_getElem?_getD, Int.toNat_natCast, List.getElem?_eq_getElem hn]
  exact List.getElem_mem hn
theorem ixN_in {n : Nat} {k : Int} (h0 : 0 ≤ k) (h1 : k < n) : ixN n k = some k.toNat := by
  obtain ⟨m, rfl⟩ := Int.eq_ofNat_of_zero_le h0
  rw [Int.toNat_natCast]; exact ixN_nat (by omega)
theorem set_get {α : Type} {L : List α} {a k : Int} {v d : α} (a0 : 0 ≤ a) (a1 : a < L.length) (k0 : 0 ≤ k) : (L.set a.toNat v).getD k.toNat d = if k = a then v else L.getD k.toNat d := by
  obtain ⟨m, rfl⟩ := Int.eq_ofNat_of_zero_le a0
  obtain ⟨n, rfl⟩ := Int.eq_ofNat_of_zero_le k0
  simp only [Int.toNat_natCast, Int.natCast_inj]
  by_cases c : n = m
  · subst c
    rw [if_pos rfl, List.getD_eq_getElem?_getD, List.getElem?_set_self (by omega)]; rfl
  · rw [if_neg c, List.getD_eq_getElem?_getD, List.getElem?_set_ne (fun z => c z.symm), ← List.getD_eq_getElem?_getD]
theorem sum_upd {f f' : Int → Int} {a s : Int} : ∀ {L : List Int}, L.Nodup → (∀ k ∈ L, k ≠ a → f' k = f k) → f' a = f a + s → (L.map f').sum = (L.map f).sum + (if a ∈ L then s else 0)
  | [], _, _, _ => by simp
  | x :: L, nd, h, ha => by
    obtain ⟨n1, n2⟩ := List.nodup_cons.1 nd
    have ih := sum_upd n2 (fun k m => h k (List.mem_cons_of_mem _ m)) ha
    rw [List.map_cons, List.map_cons, List.sum_cons, List.sum_cons, ih]
    by_cases c : x = a
    · subst c
      rw [if_neg n1, if_pos (List.mem_cons_self ..), ha]; omega
    · rw [h x (List.mem_cons_self ..) c]
      by_cases m : a ∈ L
      · rw [if_pos m, if_pos (List.mem_cons_of_mem _ m)]; omega
      · rw [if_neg m, if_neg (fun z => (List.mem_cons.1 z).elim (fun z => c z.symm) m)]; omega
theorem sum_nn {f : Int → Int} : ∀ {L : List Int}, (∀ k ∈ L, 0 ≤ f k) → 0 ≤ (L.map f).sum
  | [], _ => by simp
  | x :: L, h => by
    rw [List.map_cons, List.sum_cons]
    have := h x (List.mem_cons_self ..)
    have := sum_nn fun k m => h k (List.mem_cons_of_mem _ m)
    omega
theorem sum_le {f g : Int → Int} : ∀ {L : List Int}, (∀ k ∈ L, f k ≤ g k) → (L.map f).sum ≤ (L.map g).sum
  | [], _ => by simp
  | x :: L, h => by
    rw [List.map_cons, List.sum_cons, List.map_cons, List.sum_cons]
    have := h x (List.mem_cons_self ..)
    have := sum_le fun k m => h k (List.mem_cons_of_mem _ m)
    omega
theorem sum_bd {f : Int → Int} {b : Int} : ∀ {L : List Int}, (∀ k ∈ L, f k ≤ b) → (L.map f).sum ≤ b * L.length
  | [], _ => by simp
  | x :: L, h => by
    rw [List.map_cons, List.sum_cons, List.length_cons]
    have := h x (List.mem_cons_self ..)
    have := sum_bd fun k m => h k (List.mem_cons_of_mem _ m)
    have : b * ((L.length + 1 : Nat) : Int) = b * L.length + b := by rw [show ((L.length + 1 : Nat) : Int) = (L.length : Int) + 1 by omega, Int.mul_add]; omega
    omega
theorem rng_nodup {lo hi : Int} : (rangeL lo hi).Nodup := rangeL_asc.imp fun {a b} h e => by omega
/-- the members of a class -/
def Cs (O : List O3) (c d : Int) : List Int := (rangeL 0 (O.length : Int)).filter fun k => decide (c ≤ (nth O k).1 ∧ (nth O k).2.2 ≤ d)
theorem mem_Cs {O : List O3} {c d k : Int} : k ∈ Cs O c d ↔ (0 ≤ k ∧ k < O.length) ∧ c ≤ (nth O k).1 ∧ (nth O k).2.2 ≤ d := by
  unfold Cs
  rw [List.mem_filter, mem_rng, decide_eq_true_eq]
theorem Cs_nodup {O : List O3} {c d : Int} : (Cs O c d).Nodup := rng_nodup.sublist List.filter_sublist
theorem Cs_asc {O : List O3} {c d : Int} : (Cs O c d).Pairwise (· < ·) := rangeL_asc.sublist List.filter_sublist
/-! ### pieces, read in turn -/
def wd' (s : Str) (k : Nat) : PyData := wd1 s (k : Int)
instance {b : Option Int} {s : Int} : Decidable (∃ b0, b = some b0 ∧ s < b0) := match b with
  | none => isFalse fun ⟨_, e, _⟩ => by cases e
  | some v => if h : s < v then isTrue ⟨v, rfl, h⟩ else isFalse fun ⟨_, e, q⟩ => by cases e; exact h q
def stp (O : List O3) (k : Nat) (b : Option Int) (D : List Int) (x : O3) : PyData ⊕ List Int :=
  if ¬ (0 ≤ x.2.2 ∧ x.2.2 < O.length) ∨ x.2.1 ≤ x.1 ∨ ∃ b0, b = some b0 ∧ x.1 < b0 then .inl (wd' "piece" k)
  else if x.1 < (nth O x.2.2).1 then .inl (wd' "come" k) else .inr (D.set x.2.2.toNat (D.getD x.2.2.toNat 0 + x.2.1 - x.1))
def scan (O : List O3) : List O3 → Nat → Option Int → List Int → PyData ⊕ (Option Int × List Int)
  | [], _, b, D => .inr (b, D)
  | x :: P, k, b, D => match stp O k b D x with
    | .inl d => .inl d
    | .inr D' => scan O P (k + 1) (some x.2.1) D'
theorem scan_snoc {O : List O3} {x : O3} : ∀ {P : List O3} {k : Nat} {b : Option Int} {D : List Int}, scan O (P ++ [x]) k b D = match scan O P k b D with
    | .inl d => .inl d
    | .inr (b', D') => match stp O (k + P.length) b' D' x with
      | .inl d => .inl d
      | .inr D'' => .inr (some x.2.1, D'')
  | [], k, b, D => by cases h : stp O k b D x <;> simp [scan, h]
  | y :: P, k, b, D => by
    rw [List.cons_append]
    cases h : stp O k b D y with
    | inl d => simp [scan, h]
    | inr D' =>
      simp only [scan, h]
      rw [scan_snoc, List.length_cons, show k + 1 + P.length = k + (P.length + 1) by omega]
theorem stp_len {O : List O3} {k : Nat} {b : Option Int} {D D' : List Int} {x : O3} (h : stp O k b D x = .inr D') : D'.length = D.length := by
  unfold stp at h
  split at h
  · cases h
  · split at h
    · cases h
    · cases h; rw [List.length_set]
theorem stp_some {O : List O3} {k : Nat} {b : Option Int} {D D' : List Int} {x : O3} (h : stp O k b D x = .inr D') : (0 ≤ x.2.2 ∧ x.2.2 < O.length) ∧ x.1 < x.2.1 ∧ (∀ b0, b = some b0 → b0 ≤ x.1) ∧ (nth O x.2.2).1 ≤ x.1 ∧ D' = D.set x.2.2.toNat (D.getD x.2.2.toNat 0 + x.2.1 - x.1) := by
  unfold stp at h
  split at h
  · cases h
  · rename_i c
    split at h
    · cases h
    · rename_i c2
      cases h
      refine ⟨Classical.byContradiction fun z => c (.inl z), ?_, fun b0 e => ?_, by omega, rfl⟩
      · exact Classical.byContradiction fun z => c (.inr (.inl (by omega)))
      · exact Classical.byContradiction fun z => c (.inr (.inr ⟨b0, e, by omega⟩))
theorem stp_ok {O : List O3} {k : Nat} {b : Option Int} {D : List Int} {x : O3} (h1 : 0 ≤ x.2.2 ∧ x.2.2 < O.length) (h2 : x.1 < x.2.1) (h3 : ∀ b0, b = some b0 → b0 ≤ x.1) (h4 : (nth O x.2.2).1 ≤ x.1) : stp O k b D x = .inr (D.set x.2.2.toNat (D.getD x.2.2.toNat 0 + x.2.1 - x.1)) := by
  unfold stp
  rw [if_neg, if_neg (by omega)]
  rintro (z | z | ⟨b0, e, z⟩)
  · exact z h1
  · omega
  · have := h3 b0 e; omega
def lastE (P : List O3) (k : Int) : Option Int := ((P.filter fun x => decide (x.2.2 = k)).getLast?).map fun x => x.2.1
theorem lastE_snoc {Q : List O3} {x : O3} {k : Int} : lastE (Q ++ [x]) k = if x.2.2 = k then some x.2.1 else lastE Q k := by
  unfold lastE
  rw [List.filter_append]
  by_cases c : x.2.2 = k
  · rw [if_pos c, List.filter_cons, if_pos (decide_eq_true c), List.filter_nil, List.getLast?_append]; rfl
  · rw [if_neg c, List.filter_cons, if_neg (fun z => c (of_decide_eq_true z)), List.filter_nil, List.append_nil]
/-! ### the shop at work -/
def lf (st : CT_Shop) (k : Int) : Int := st.2.1.getD k.toNat 0
def en_ (st : CT_Shop) (k : Int) : Option Int := st.2.2.1.getD k.toNat none
def mu (O : List O3) (st : CT_Shop) : Nat := (rangeL 0 (O.length : Int)).countP (fun k => decide (lf st k ≠ 0)) + (rangeL 0 (O.length : Int)).countP fun k => decide (st.2.2.2.2 < (nth O k).1)
theorem countP_lt {α : Type} {P Q : α → Bool} : ∀ l : List α, (∀ x ∈ l, P x = true → Q x = true) → (∃ x ∈ l, Q x = true ∧ P x = false) → l.countP P < l.countP Q
  | [], _, h => by obtain ⟨x, m, _⟩ := h; cases m
  | x :: l, h, e => by
    rw [List.countP_cons, List.countP_cons]
    have mono : l.countP P ≤ l.countP Q := List.countP_mono_left fun y m => h y (List.mem_cons_of_mem _ m)
    obtain ⟨z, mz, q, p⟩ := e
    rcases List.mem_cons.1 mz with rfl | mz
    · rw [q, p]; simp; omega
    · have := countP_lt l (fun y m => h y (List.mem_cons_of_mem _ m)) ⟨z, mz, q, p⟩
      have hx := h x (List.mem_cons_self ..)
      cases ep : P x with
      | false => simp; omega
      | true => rw [hx ep]; simp; omega
structure SI (O : List O3) (st : CT_Shop) : Prop where
  or_ : st.1 = O
  ll : st.2.1.length = O.length
  le : st.2.2.1.length = O.length
  lb : ∀ k : Int, 0 ≤ k → k < O.length → 0 ≤ lf st k ∧ lf st k ≤ (nth O k).2.1
  eq : ∀ k : Int, 0 ≤ k → k < O.length → (en_ st k = none ↔ lf st k ≠ 0)
  sc : ∃ b D, scan O st.2.2.2.1 0 none (List.replicate O.length 0) = .inr (b, D) ∧ (∀ b0, b = some b0 → b0 ≤ st.2.2.2.2) ∧ D.length = O.length ∧ ∀ k : Int, 0 ≤ k → k < O.length → D.getD k.toNat 0 = (nth O k).2.1 - lf st k
  enE : ∀ (k : Int) e, 0 ≤ k → k < O.length → en_ st k = some e → lastE st.2.2.2.1 k = some e
  i5 : ∀ d, ∃ t0, t0 ≤ st.2.2.2.2 ∧ (∀ k : Int, 0 ≤ k → k < O.length → (nth O k).2.2 ≤ d → (nth O k).1 < t0 → lf st k = 0) ∧ st.2.2.2.2 - t0 ≤ ((Cs O t0 d).map fun k => (nth O k).2.1 - lf st k).sum
  i6 : ∀ (k : Int) e, 0 ≤ k → k < O.length → en_ st k = some e → ∃ t0, t0 ≤ (nth O k).1 ∧ e - t0 ≤ ((Cs O t0 (nth O k).2.2).map fun k => (nth O k).2.1).sum
  nb : 0 ≤ st.2.2.2.2 ∧ st.2.2.2.2 ≤ 100 + ((rangeL 0 (O.length : Int)).map fun k => (nth O k).2.1 - lf st k).sum
  pb : ∀ p ∈ st.2.2.2.1, (0 ≤ p.1 ∧ p.1 ≤ st.2.2.2.2) ∧ (0 ≤ p.2.1 ∧ p.2.1 ≤ st.2.2.2.2) ∧ 0 ≤ p.2.2 ∧ p.2.2 < O.length
  pl : st.2.2.2.1.length + mu O st ≤ 18
  fut : ∀ k : Int, 0 ≤ k → k < O.length → st.2.2.2.2 < (nth O k).1 → lf st k = (nth O k).2.1
section
variable {O : List O3}
theorem mu_le (o : OOk O) (st : CT_Shop) : mu O st ≤ 18 := by
  have h := o.len
  have l : (rangeL 0 (O.length : Int)).length = O.length := by rw [rng_len]; omega
  unfold mu
  have h1 : (rangeL 0 (O.length : Int)).countP (fun k => decide (lf st k ≠ 0)) ≤ (rangeL 0 (O.length : Int)).length := List.countP_le_length ..
  have h2 : ((rangeL 0 (O.length : Int)).countP fun k => decide (st.2.2.2.2 < (nth O k).1)) ≤ (rangeL 0 (O.length : Int)).length := List.countP_le_length ..
  omega
theorem nthb (o : OOk O) {k : Int} (h0 : 0 ≤ k) (h1 : k < O.length) : (0 ≤ (nth O k).1 ∧ (nth O k).1 ≤ 100) ∧ (1 ≤ (nth O k).2.1 ∧ (nth O k).2.1 ≤ 100) ∧ 0 ≤ (nth O k).2.2 ∧ (nth O k).2.2 ≤ 300 := o.bd _ (nth_mem h0 h1)
theorem map_get {f : O3 → Int} {k : Int} (h0 : 0 ≤ k) (h1 : k < O.length) : (O.map f).getD k.toNat 0 = f (nth O k) := by
  obtain ⟨n, rfl⟩ := Int.eq_ofNat_of_zero_le h0
  have hn : n < O.length := by omega
  unfold nth
  rw [List.getD_eq_getElem?_getD, List.getD_eq_getElem?_getD, List.getElem?_map, Int.toNat_natCast, List.getElem?_eq_getElem hn]; rfl
theorem init_ok (o : OOk O) (ne : O ≠ []) : ∃ st, m_Shop___init__ O = some st ∧ SI O st ∧ st.2.2.2.1 = [] ∧ st.2.1 = O.map (fun x => x.2.1) ∧ ∀ k : Int, 0 ≤ k → k < O.length → st.2.2.2.2 ≤ (nth O k).1 := by
  have hS : (1000000 : Nat) ≤ SZ := by decide
  have hO := o.len
  unfold m_Shop___init__
  dsimp only
  rw [compO_map (fun x : O3 => x.2.1) () _ [] (by simp; omega) (fun _ _ _ => rfl), List.nil_append]
  rw [compO_map (fun _ : O3 => (none : Option Int)) () _ [] (by simp; omega) (fun _ _ _ => rfl), List.nil_append]
  rw [compO_map (fun x : O3 => x.1) () _ [] (by simp; omega) (fun _ _ _ => rfl), List.nil_append]
  obtain ⟨v, ev, mv, uv⟩ := minI_some (l := O.map fun x => x.1) (by simpa using ne)
  rw [show minDf 0 (O.map fun x => x.1) = v by unfold minDf; rw [ev]; rfl]
  obtain ⟨x0, mx0, rfl⟩ := List.mem_map.1 mv
  have b0 := o.bd x0 mx0
  refine ⟨_, rfl, ?_, rfl, rfl, fun k h0 h1 => uv (nth O k).1 (List.mem_map.2 ⟨_, nth_mem h0 h1, rfl⟩)⟩
  have lfe : ∀ k : Int, 0 ≤ k → k < O.length → lf (O, O.map (fun x => x.2.1), O.map (fun _ => (none : Option Int)), ([] : List O3), x0.1) k = (nth O k).2.1 := fun k h0 h1 => map_get h0 h1
  have ene : ∀ k, en_ (O, O.map (fun x => x.2.1), O.map (fun _ => (none : Option Int)), ([] : List O3), x0.1) k = none := fun k => by
    unfold en_
    dsimp only
    rw [List.getD_eq_getElem?_getD, List.getElem?_map]
    cases O[k.toNat]? <;> rfl
  have z0 : ∀ L : List Int, (∀ k ∈ L, 0 ≤ k ∧ k < O.length) → 0 ≤ (L.map fun k => (nth O k).2.1 - lf (O, O.map (fun x => x.2.1), O.map (fun _ => (none : Option Int)), ([] : List O3), x0.1) k).sum := fun L hL => sum_nn fun k m => by
    rw [lfe k (hL k m).1 (hL k m).2]; omega
  refine ⟨rfl, by simp, by simp, fun k h0 h1 => ?_, fun k h0 h1 => ?_, ⟨none, List.replicate O.length 0, rfl, (fun _ e => by cases e), by simp, fun k h0 h1 => ?_⟩, fun k e _ _ h => ?_, fun d => ⟨x0.1, Int.le_refl _, fun k h0 h1 _ h => ?_, ?_⟩, fun k e _ _ h => ?_, ⟨b0.1.1, ?_⟩, (fun p m => nomatch m), ?_, fun k h0 h1 _ => lfe k h0 h1⟩
  · rw [lfe k h0 h1]
    have := nthb o h0 h1
    omega
  · rw [lfe k h0 h1, ene k]
    have := nthb o h0 h1
    exact ⟨fun _ => by omega, fun _ => rfl⟩
  · rw [lfe k h0 h1, List.getD_eq_getElem?_getD, List.getElem?_replicate]
    split <;> simp
  · rw [ene k] at h; cases h
  · have := uv (nth O k).1 (List.mem_map.2 ⟨_, nth_mem h0 h1, rfl⟩)
    omega
  · have := z0 (Cs O x0.1 d) fun k m => (mem_Cs.1 m).1
    dsimp only at this ⊢
    omega
  · rw [ene k] at h; cases h
  · have := z0 (rangeL 0 (O.length : Int)) fun k m => mem_rng.1 m
    dsimp only at this ⊢
    omega
  · have := mu_le o (O, O.map (fun x => x.2.1), O.map (fun _ => (none : Option Int)), ([] : List O3), x0.1)
    simpa using this
/-- those that wait, the first of them -/
theorem here_ok (o : OOk O) {st : CT_Shop} (s : SI O st) : ∃ row, m_Shop_here st = some row ∧ (∀ k, k ∈ row ↔ (0 ≤ k ∧ k < O.length) ∧ (nth O k).1 ≤ st.2.2.2.2 ∧ lf st k ≠ 0) ∧ ∀ a r, row = a :: r → ∀ k ∈ row, (nth O a).2.2 < (nth O k).2.2 ∨ ((nth O a).2.2 = (nth O k).2.2 ∧ a ≤ k) := by
  have hS : (1000000 : Nat) ≤ SZ := by decide
  have hO := o.len
  unfold m_Shop_here
  dsimp only
  rw [s.or_, enumL_rng ((0, 0, 0) : O3), forO_mapL]
  have key := forO_filt (Ω := List Int) (fun k : Int => if decide ((nth O k).1 ≤ st.2.2.2.2 ∧ lf st k ≠ 0) = true then some ((nth O k).2.2, k) else none)
    (b := fun y s_1 kc => (
      (if (decide (((nth O y).1 ≤ st.2.2.2.2))) = true then ((atI st.2.2.1 y).bind fun y56 =>
    some (isNone ((eO eI nnI).enc y56))) else some false).bind fun z57 : Bool =>
    if z57 = true then (
      ck (decide (List.length s_1 < SZ)) (
      kc (s_1 ++ [((nth O y).2.2, y)])))
    else (
      kc s_1))) (k := fun t67 => (some (sortB (lt2 ltI ltI) t67)).bind fun y68 =>
    compO y68 () (fun x71 (t70 : Unit) kc76 => (
      kc76 (some x71.2) ())) [] fun (ys74 : List Int) (t75 : Unit) => (
      some ys74)) (rangeL 0 (O.length : Int)) [] (by rw [rng_len]; simp; omega) (fun k mk t kc ht => by
    have mk := mem_rng.1 mk
    have he := s.eq k mk.1 mk.2
    rw [at_getD (none : Option Int) mk.1 (by have := s.le; omega), Option.bind_some]
    have hn : isNone ((eO eI nnI).enc (st.2.2.1.getD k.toNat none)) = decide (lf st k ≠ 0) := by
      show isNone ((eO eI nnI).enc (en_ st k)) = _
      by_cases z : lf st k ≠ 0
      · rw [he.2 z, decide_eq_true z]; rfl
      · rw [decide_eq_false z]
        cases q : en_ st k with
        | none => exact absurd (he.1 q) z
        | some e => rfl
    rw [hn]
    by_cases c1 : (nth O k).1 ≤ st.2.2.2.2
    · rw [decide_eq_true c1, ite_t, Option.bind_some]
      by_cases c2 : lf st k ≠ 0
      · rw [decide_eq_true c2, ite_t, ck_pos (decide_eq_true ht), if_pos (decide_eq_true (show (nth O k).1 ≤ st.2.2.2.2 ∧ lf st k ≠ 0 from ⟨c1, c2⟩))]; rfl
      · rw [decide_eq_false c2, decide_eq_false (fun z : (nth O k).1 ≤ st.2.2.2.2 ∧ lf st k ≠ 0 => c2 z.2), ite_f, ite_f]
        simp
    · rw [decide_eq_false c1, decide_eq_false (fun z : (nth O k).1 ≤ st.2.2.2.2 ∧ lf st k ≠ 0 => c1 z.1), ite_f, ite_f, Option.bind_some, ite_f]
      simp)
  refine ⟨(sortB (lt2 ltI ltI) ((rangeL 0 (O.length : Int)).filterMap fun k : Int => if decide ((nth O k).1 ≤ st.2.2.2.2 ∧ lf st k ≠ 0) = true then some ((nth O k).2.2, k) else none)).map fun x => x.2, ?_, ?_, ?_⟩
  · refine Eq.trans key ?_
    rw [List.nil_append, Option.bind_some, compO_map (fun x : Int × Int => x.2) () _ [] (by
      rw [sortB_len]
      have := List.length_filterMap_le (fun k : Int => if decide ((nth O k).1 ≤ st.2.2.2.2 ∧ lf st k ≠ 0) = true then some ((nth O k).2.2, k) else none) (rangeL 0 (O.length : Int))
      rw [rng_len] at this
      rw [List.length_nil, Nat.zero_add]; omega) (fun _ _ _ => rfl), List.nil_append]
  · intro k
    rw [List.mem_map]
    constructor
    · rintro ⟨x, mx, rfl⟩
      obtain ⟨j, mj, e⟩ := List.mem_filterMap.1 (sortB_mem.1 mx)
      split at e
      · rename_i z
        cases e
        exact ⟨mem_rng.1 mj, of_decide_eq_true z⟩
      · cases e
    · rintro ⟨h1, h2⟩
      exact ⟨((nth O k).2.2, k), sortB_mem.2 (List.mem_filterMap.2 ⟨k, mem_rng.2 h1, by rw [if_pos (decide_eq_true h2)]⟩), rfl⟩
  · intro a r e k mk
    have pw := sort2_pw ((rangeL 0 (O.length : Int)).filterMap fun k : Int => if decide ((nth O k).1 ≤ st.2.2.2.2 ∧ lf st k ≠ 0) = true then some ((nth O k).2.2, k) else none)
    have form : ∀ x ∈ sortB (lt2 ltI ltI) ((rangeL 0 (O.length : Int)).filterMap fun k : Int => if decide ((nth O k).1 ≤ st.2.2.2.2 ∧ lf st k ≠ 0) = true then some ((nth O k).2.2, k) else none), x.1 = (nth O x.2).2.2 := fun x mx => by
      obtain ⟨j, mj, e⟩ := List.mem_filterMap.1 (sortB_mem.1 mx)
      split at e
      · cases e; rfl
      · cases e
    change (sortB (lt2 ltI ltI) _).Pairwise _ at pw
    cases hL : sortB (lt2 ltI ltI) ((rangeL 0 (O.length : Int)).filterMap fun k : Int => if decide ((nth O k).1 ≤ st.2.2.2.2 ∧ lf st k ≠ 0) = true then some ((nth O k).2.2, k) else none) with
    | nil => rw [hL] at e; cases e
    | cons x xs =>
      rw [hL] at e mk pw form
      simp only [List.map_cons, List.cons.injEq] at e
      obtain ⟨y, my, rfl⟩ := List.mem_map.1 mk
      have fx := form x (List.mem_cons_self ..)
      have fy := form y my
      rw [← e.1, ← fx, ← fy]
      rcases List.mem_cons.1 my with rfl | my
      · exact .inr ⟨rfl, Int.le_refl _⟩
      · exact (List.pairwise_cons.1 pw).1 y my
end
section
variable {O : List O3}
/-- the pieces behind a turn -/
def addP (P : List O3) (now at_ size : Int) : List O3 := match P.getLast? with
  | some x => if x.2.1 = now ∧ x.2.2 = at_ then P.dropLast ++ [(x.1, now + size, at_)] else P ++ [(now, now + size, at_)]
  | none => P ++ [(now, now + size, at_)]
theorem atI_last {α : Type} {Q : List α} {x : α} : atI (Q ++ [x]) (-(1 : Int)) = some x := by
  rw [atI_neg (by simp)]; simp
theorem ixN_last {n : Nat} : ixN (n + 1) (-(1 : Int)) = some n := by
  unfold ixN
  rw [if_neg (by omega), if_pos (by omega)]
  congr 1
  omega
theorem set_last {α : Type} {Q : List α} {x y : α} : (Q ++ [x]).set Q.length y = Q ++ [y] := by
  rw [List.set_append_right _ _ (Nat.le_refl _), Nat.sub_self]; rfl
def tl (st : CT_Shop) (P : List O3) (at_ size : Int) : CT_Shop := (st.1, st.2.1.set at_.toNat (st.2.1.getD at_.toNat 0 - size), (if st.2.1.getD at_.toNat 0 - size = 0 then st.2.2.1.set at_.toNat (some (st.2.2.2.2 + size)) else st.2.2.1), P, st.2.2.2.2 + size)
theorem note_tl {st : CT_Shop} {P : List O3} {at_ size : Int} (a0 : 0 ≤ at_) (a1 : at_ < st.2.1.length) (a2 : at_ < st.2.2.1.length) :
    ((atI st.2.1 at_).bind fun y113 =>
    (ixN (List.length st.2.1) at_).bind fun n118 =>
    (atI (List.set st.2.1 n118 (y113 - size)) at_).bind fun y128 =>
    if (decide (y128 = (0 : Int))) = true then (
      (ixN (List.length st.2.2.1) at_).bind fun n136 =>
      some ((), ((st.1, List.set st.2.1 n118 (y113 - size), List.set st.2.2.1 n136 (some (st.2.2.2.2 + size)), P, st.2.2.2.2 + size) : CT_Shop)))
    else (
      some ((), ((st.1, List.set st.2.1 n118 (y113 - size), st.2.2.1, P, st.2.2.2.2 + size) : CT_Shop)))) = some ((), tl st P at_ size) := by
  rw [at_getD 0 a0 a1, Option.bind_some, ixN_in a0 a1, Option.bind_some, at_getD 0 a0 (by rw [List.length_set]; exact a1), Option.bind_some, set_get a0 a1 a0, if_pos rfl, ite_d]
  unfold tl
  by_cases c : st.2.1.getD at_.toNat 0 - size = 0
  · rw [if_pos c, if_pos c, ixN_in a0 a2]; rfl
  · rw [if_neg c, if_neg c]
theorem note_ok {st : CT_Shop} {at_ size : Int} (hP : st.2.2.2.1.length < 1000) (a0 : 0 ≤ at_) (a1 : at_ < st.2.1.length) (a2 : at_ < st.2.2.1.length) : m_Shop_note st at_ size = some ((), tl st (addP st.2.2.2.1 st.2.2.2.2 at_ size) at_ size) := by
  have hS : (1000000 : Nat) ≤ SZ := by decide
  unfold m_Shop_note addP
  dsimp only
  obtain ⟨O', L, E, P, now⟩ := st
  dsimp only at hP a1 a2 ⊢
  rcases List.eq_nil_or_concat P with rfl | ⟨Q, x, hQ⟩
  · show ((some false).bind _ : Option (Unit × CT_Shop)) = _
    rw [Option.bind_some, ite_f, ck_pos (decide_eq_true (by simp; omega))]
    exact note_tl (st := (O', L, E, [], now)) a0 a1 a2
  · rw [List.concat_eq_append] at hQ
    subst hQ
    have hl : (Q ++ [x]).getLast? = some x := by simp
    have hd : (Q ++ [x]).dropLast = Q := by simp
    have he : (!List.isEmpty (Q ++ [x])) = true := by simp
    rw [hl, hd, he, ite_t, atI_last, Option.bind_some, Option.bind_some]
    dsimp only
    have tst : (if (decide (x.2.1 = now)) = true then (some (decide (x.2.2 = at_))) else some false) = some (decide (x.2.1 = now ∧ x.2.2 = at_)) := by
      by_cases c : x.2.1 = now <;> simp [c]
    rw [tst, Option.bind_some, ite_d]
    by_cases c : x.2.1 = now ∧ x.2.2 = at_
    · rw [if_pos c, if_pos c, Option.bind_some, List.length_append, List.length_singleton, ixN_last, Option.bind_some, set_last]
      exact note_tl (st := (O', L, E, Q ++ [x], now)) a0 a1 a2
    · rw [if_neg c, if_neg c, ck_pos (decide_eq_true (by omega))]
      exact note_tl (st := (O', L, E, Q ++ [x], now)) a0 a1 a2
/-- .. and what they say -/
theorem addP_ok {P : List O3} {b : Option Int} {D : List Int} {now at_ size : Int} (sc : scan O P 0 none (List.replicate O.length 0) = .inr (b, D)) (hb : ∀ b0, b = some b0 → b0 ≤ now) (hD : D.length = O.length) (a0 : 0 ≤ at_) (a1 : at_ < O.length) (sz : 1 ≤ size) (hc : (nth O at_).1 ≤ now) :
    ∃ D', scan O (addP P now at_ size) 0 none (List.replicate O.length 0) = .inr (some (now + size), D') ∧ D'.length = O.length ∧ (∀ k : Int, 0 ≤ k → k < O.length → D'.getD k.toNat 0 = D.getD k.toNat 0 + (if k = at_ then size else 0)) ∧ (∀ k : Int, lastE (addP P now at_ size) k = if k = at_ then some (now + size) else lastE P k) ∧ (addP P now at_ size).length ≤ P.length + 1 := by
  have plain : ∃ D', scan O (P ++ [(now, now + size, at_)]) 0 none (List.replicate O.length 0) = .inr (some (now + size), D') ∧ D'.length = O.length ∧ (∀ k : Int, 0 ≤ k → k < O.length → D'.getD k.toNat 0 = D.getD k.toNat 0 + (if k = at_ then size else 0)) ∧ (∀ k : Int, lastE (P ++ [(now, now + size, at_)]) k = if k = at_ then some (now + size) else lastE P k) ∧ (P ++ [(now, now + size, at_)]).length ≤ P.length + 1 := by
    rw [scan_snoc, sc]
    dsimp only
    rw [stp_ok (x := (now, now + size, at_)) ⟨a0, a1⟩ (by dsimp only; omega) hb hc]
    refine ⟨_, rfl, by rw [List.length_set]; exact hD, fun k k0 k1 => ?_, fun k => ?_, by simp⟩
    · dsimp only
      rw [set_get a0 (by omega) k0]
      by_cases c : k = at_
      · subst c; rw [if_pos rfl, if_pos rfl]; omega
      · rw [if_neg c, if_neg c]; omega
    · rw [lastE_snoc]
      dsimp only
      by_cases c : k = at_
      · rw [if_pos c.symm, if_pos c]
      · rw [if_neg (fun z => c z.symm), if_neg c]
  unfold addP
  rcases List.eq_nil_or_concat P with rfl | ⟨Q, x, hQ⟩
  · exact plain
  · rw [List.concat_eq_append] at hQ
    subst hQ
    have hl : (Q ++ [x]).getLast? = some x := by simp
    have hd : (Q ++ [x]).dropLast = Q := by simp
    rw [hl, hd]
    dsimp only
    by_cases c : x.2.1 = now ∧ x.2.2 = at_
    · rw [if_pos c]
      obtain ⟨c1, c2⟩ := c
      rw [scan_snoc] at sc ⊢
      cases h : scan O Q 0 none (List.replicate O.length 0) with
      | inl d => rw [h] at sc; cases sc
      | inr bd =>
        obtain ⟨b1, D1⟩ := bd
        rw [h] at sc
        dsimp only at sc ⊢
        cases h2 : stp O (0 + Q.length) b1 D1 x with
        | inl d => rw [h2] at sc; cases sc
        | inr D2 =>
          rw [h2] at sc
          dsimp only at sc
          obtain ⟨q1, q2, q3, q4, q5⟩ := stp_some h2
          have e1 : D = D2 := by cases sc; rfl
          have l1 := stp_len h2
          rw [e1] at hD
          rw [stp_ok (x := (x.1, now + size, at_)) ⟨a0, a1⟩ (by dsimp only; omega) q3 (by dsimp only; rw [← c2]; exact q4)]
          refine ⟨_, rfl, by rw [List.length_set]; omega, fun k k0 k1 => ?_, fun k => ?_, by simp⟩
          · rw [e1, q5]
            dsimp only
            rw [set_get a0 (by omega) k0, set_get q1.1 (by omega) k0, c1, c2]
            by_cases c : k = at_
            · rw [if_pos c, if_pos c, if_pos c]; omega
            · rw [if_neg c, if_neg c, if_neg c]; omega
          · rw [lastE_snoc, lastE_snoc]
            dsimp only
            by_cases c : k = at_
            · rw [if_pos c.symm, if_pos c]
            · rw [if_neg (fun z => c z.symm), if_neg c, if_neg (by rw [c2]; exact fun z => c z.symm)]
    · rw [if_neg c]; exact plain
theorem lf_tl {st : CT_Shop} {P : List O3} {at_ size k : Int} (a0 : 0 ≤ at_) (a1 : at_ < st.2.1.length) (k0 : 0 ≤ k) : lf (tl st P at_ size) k = if k = at_ then lf st at_ - size else lf st k := by
  unfold lf tl
  dsimp only
  rw [set_get a0 a1 k0]
theorem en_tl {st : CT_Shop} {P : List O3} {at_ size k : Int} (a0 : 0 ≤ at_) (a1 : at_ < st.2.2.1.length) (k0 : 0 ≤ k) : en_ (tl st P at_ size) k = if k = at_ ∧ lf st at_ - size = 0 then some (st.2.2.2.2 + size) else en_ st k := by
  unfold en_ tl
  dsimp only
  by_cases c : st.2.1.getD at_.toNat 0 - size = 0
  · rw [if_pos c, set_get a0 a1 k0]
    by_cases d : k = at_
    · rw [if_pos d, if_pos ⟨d, c⟩]
    · rw [if_neg d, if_neg (fun z => d z.1)]
  · rw [if_neg c, if_neg (fun z => c z.2)]
end
/-! ### the law's turns, one unit of time each -/
abbrev US := List Int × List (Option Int) × List O3 × Int
def ub (O : List O3) (Ky : List Int) (t858 : US) (kc859 : US → Option (List O3 × List (Option Int))) : Option (List O3 × List (Option Int)) :=
  if (decide ((0 : Int) < (List.sum t858.1))) = true then (
          ck (rgOk 0 (List.length O : Int)) (compO (rangeL 0 (List.length O : Int)) () (fun x865 (t864 : Unit) kc882 => (
            ((atI O x865).bind fun y867 =>
            if (decide (y867.1 ≤ t858.2.2.2)) = true then ((atI t858.1 x865).bind fun y871 =>
            some (decide ((0 : Int) < y871))) else some false).bind fun z873 : Bool =>
            if z873 = true then ((atI Ky x865).bind fun y876 =>
            kc882 (some (y876, x865)) ()) else kc882 none ())) [] fun (ys880 : List (Int × Int)) (t881 : Unit) => (
            (some (sortB (lt2 ltI ltI) ys880)).bind fun y883 =>
            if (decide ((0 : Int) < (List.length y883 : Int))) = true then (
              (atI y883 (0 : Int)).bind fun y891 =>
              (
              if (decide ((0 : Int) < (List.length t858.2.2.1 : Int))) = true then ((atI t858.2.2.1 (-(1 : Int))).bind fun y897 =>
              some (decide ((y897.2.1, y897.2.2) = (t858.2.2.2, y891.2)))) else some false).bind fun z901 : Bool =>
              if z901 = true then (
                (atI t858.2.2.1 (-(1 : Int))).bind fun y906 =>
                (ixN (List.length t858.2.2.1) (-(1 : Int))).bind fun n916 =>
                (atI t858.1 y891.2).bind fun y925 =>
                (ixN (List.length t858.1) y891.2).bind fun n939 =>
                (ixN (List.length t858.2.1) y891.2).bind fun n938 =>
                kc859 (List.set t858.1 n939 (y925 - (1 : Int)), List.set t858.2.1 n938 (some (t858.2.2.2 + (1 : Int))), List.set t858.2.2.1 n916 (y906.1, (t858.2.2.2 + (1 : Int)), y891.2), t858.2.2.2 + (1 : Int)))
              else (
                ck (decide (List.length t858.2.2.1 < SZ)) (
                (atI t858.1 y891.2).bind fun y925 =>
                (ixN (List.length t858.1) y891.2).bind fun n939 =>
                (ixN (List.length t858.2.1) y891.2).bind fun n938 =>
                kc859 (List.set t858.1 n939 (y925 - (1 : Int)), List.set t858.2.1 n938 (some (t858.2.2.2 + (1 : Int))), t858.2.2.1 ++ [(t858.2.2.2, (t858.2.2.2 + (1 : Int)), y891.2)], t858.2.2.2 + (1 : Int)))))
            else (
              kc859 (t858.1, t858.2.1, t858.2.2.1, t858.2.2.2 + (1 : Int))))))
  else some (t858.2.2.1, t858.2.1)
section
variable {O : List O3} {Ky : List Int}
theorem law_worked_eq (fu : Nat) (hO : O.length ≤ 1000) : m__law_worked fu O Ky = whileO fu (O.map (fun x => x.2.1), O.map (fun _ => some (0 : Int)), ([] : List O3), (0 : Int)) (ub O Ky) := by
  have hS : (1000000 : Nat) ≤ SZ := by decide
  unfold m__law_worked
  dsimp only
  rw [compO_map (fun x : O3 => x.2.1) () _ [] (by simp; omega) (fun _ _ _ => rfl), List.nil_append]
  rw [compO_map (fun _ : O3 => some (0 : Int)) () _ [] (by simp; omega) (fun _ _ _ => rfl), List.nil_append]
  rfl
def abl (O : List O3) (Ky L : List Int) (now : Int) : List (Int × Int) := (rangeL 0 (O.length : Int)).filterMap fun j => if decide ((nth O j).1 ≤ now ∧ 0 < L.getD j.toNat 0) = true then some (Ky.getD j.toNat 0, j) else none
theorem mem_abl {L : List Int} {now : Int} {y : Int × Int} : y ∈ abl O Ky L now ↔ (0 ≤ y.2 ∧ y.2 < O.length) ∧ ((nth O y.2).1 ≤ now ∧ 0 < L.getD y.2.toNat 0) ∧ y.1 = Ky.getD y.2.toNat 0 := by
  unfold abl
  rw [List.mem_filterMap]
  constructor
  · rintro ⟨j, mj, e⟩
    split at e
    · rename_i z
      cases e
      exact ⟨mem_rng.1 mj, of_decide_eq_true z, rfl⟩
    · cases e
  · rintro ⟨h1, h2, h3⟩
    exact ⟨y.2, mem_rng.2 h1, by rw [if_pos (decide_eq_true h2), ← h3]⟩
theorem ub_run (hO : O.length ≤ 1000) {L : List Int} {E : List (Option Int)} {P : List O3} {now : Int} (hL : L.length = O.length) (hK : Ky.length = O.length) (sp : 0 < L.sum) {kc : US → Option (List O3 × List (Option Int))} :
    ub O Ky (L, E, P, now) kc = (if (decide ((0 : Int) < (List.length (sortB (lt2 ltI ltI) (abl O Ky L now)) : Int))) = true then (
              (atI (sortB (lt2 ltI ltI) (abl O Ky L now)) (0 : Int)).bind fun y891 =>
              (
              if (decide ((0 : Int) < (List.length P : Int))) = true then ((atI P (-(1 : Int))).bind fun y897 =>
              some (decide ((y897.2.1, y897.2.2) = (now, y891.2)))) else some false).bind fun z901 : Bool =>
              if z901 = true then (
                (atI P (-(1 : Int))).bind fun y906 =>
                (ixN (List.length P) (-(1 : Int))).bind fun n916 =>
                (atI L y891.2).bind fun y925 =>
                (ixN (List.length L) y891.2).bind fun n939 =>
                (ixN (List.length E) y891.2).bind fun n938 =>
                kc (List.set L n939 (y925 - (1 : Int)), List.set E n938 (some (now + (1 : Int))), List.set P n916 (y906.1, (now + (1 : Int)), y891.2), now + (1 : Int)))
              else (
                ck (decide (List.length P < SZ)) (
                (atI L y891.2).bind fun y925 =>
                (ixN (List.length L) y891.2).bind fun n939 =>
                (ixN (List.length E) y891.2).bind fun n938 =>
                kc (List.set L n939 (y925 - (1 : Int)), List.set E n938 (some (now + (1 : Int))), P ++ [(now, (now + (1 : Int)), y891.2)], now + (1 : Int)))))
            else (
              kc (L, E, P, now + (1 : Int)))) := by
  have hS : (1000000 : Nat) ≤ SZ := by decide
  unfold ub
  dsimp only
  rw [decide_eq_true sp, ite_t, ck_pos (rgOk_s (by omega) (by omega) (by omega) (by omega))]
  rw [compO_filterMap (fun j => if decide ((nth O j).1 ≤ now ∧ 0 < L.getD j.toNat 0) = true then some (Ky.getD j.toNat 0, j) else none) () _ [] (by rw [rng_len]; simp; omega) (fun j mj kc => by
    have mj := mem_rng.1 mj
    rw [at_nth mj.1 mj.2, Option.bind_some, at_getD 0 mj.1 (by omega), at_getD 0 mj.1 (by omega)]
    by_cases c1 : (nth O j).1 ≤ now
    · rw [decide_eq_true c1, ite_t, Option.bind_some, Option.bind_some, ite_d]
      by_cases c2 : 0 < L.getD j.toNat 0
      · rw [if_pos c2, if_pos (decide_eq_true (show _ ∧ _ from ⟨c1, c2⟩))]; rfl
      · rw [if_neg c2, if_neg (fun z => c2 (of_decide_eq_true z).2)]
    · rw [decide_eq_false c1, ite_f, Option.bind_some, ite_f, if_neg (fun z => c1 (of_decide_eq_true z).1)]), List.nil_append, Option.bind_some]
  rfl
theorem ub_idle (hO : O.length ≤ 1000) {L : List Int} {E : List (Option Int)} {P : List O3} {now : Int} (hL : L.length = O.length) (hK : Ky.length = O.length) (sp : 0 < L.sum) (idle : ∀ k : Int, 0 ≤ k → k < O.length → (nth O k).1 ≤ now → ¬ 0 < L.getD k.toNat 0) {kc : US → Option (List O3 × List (Option Int))} : ub O Ky (L, E, P, now) kc = kc (L, E, P, now + 1) := by
  rw [ub_run hO hL hK sp]
  have : abl O Ky L now = [] := by
    refine List.eq_nil_iff_forall_not_mem.2 fun y my => ?_
    obtain ⟨h1, h2, _⟩ := mem_abl.1 my
    exact idle y.2 h1.1 h1.2 h2.1 h2.2
  rw [this]
  have hs : sortB (lt2 ltI ltI) ([] : List (Int×Int)) = [] := List.eq_nil_of_length_eq_zero (by rw [sortB_len]; rfl)
  rw [hs]
  rfl
theorem ub_work (hO : O.length ≤ 1000) {L : List Int} {E : List (Option Int)} {P : List O3} {now k : Int} (hL : L.length = O.length) (hK : Ky.length = O.length) (hE : E.length = O.length) (hP : P.length < 3000) (sp : 0 < L.sum) (k0 : 0 ≤ k) (k1 : k < O.length) (kc_ : (nth O k).1 ≤ now) (kl : 0 < L.getD k.toNat 0)
    (first : ∀ j : Int, 0 ≤ j → j < O.length → (nth O j).1 ≤ now → 0 < L.getD j.toNat 0 → Ky.getD k.toNat 0 < Ky.getD j.toNat 0 ∨ (Ky.getD k.toNat 0 = Ky.getD j.toNat 0 ∧ k ≤ j)) {kc : US → Option (List O3 × List (Option Int))} :
    ub O Ky (L, E, P, now) kc = kc (L.set k.toNat (L.getD k.toNat 0 - 1), E.set k.toNat (some (now + 1)), addP P now k 1, now + 1) := by
  have hS : (1000000 : Nat) ≤ SZ := by decide
  rw [ub_run hO hL hK sp]
  have pw := sort2_pw (abl O Ky L now)
  change (sortB (lt2 ltI ltI) _).Pairwise _ at pw
  have mk : (Ky.getD k.toNat 0, k) ∈ sortB (lt2 ltI ltI) (abl O Ky L now) := sortB_mem.2 (mem_abl.2 ⟨⟨k0, k1⟩, ⟨kc_, kl⟩, rfl⟩)
  cases hs : sortB (lt2 ltI ltI) (abl O Ky L now) with
  | nil => rw [hs] at mk; cases mk
  | cons y ys =>
    have my : y ∈ abl O Ky L now := sortB_mem.1 (by rw [hs]; exact List.mem_cons_self ..)
    obtain ⟨y1, y2, y3⟩ := mem_abl.1 my
    have hy : y.2 = k := by
      have a1 := first y.2 y1.1 y1.2 y2.1 y2.2
      rw [hs] at mk pw
      rcases List.mem_cons.1 mk with e | m
      · rw [← e]
      · have a2 := (List.pairwise_cons.1 pw).1 _ m
        dsimp only at a2
        omega
    rw [decide_eq_true (by simp), ite_t, show atI (y :: ys) (0 : Int) = some y from Z.atI_nat (i := 0) (xs := y :: ys) (by simp), Option.bind_some, hy]
    rw [at_getD 0 k0 (by omega), ixN_in k0 (by omega : k < (L.length : Nat)), ixN_in k0 (by omega : k < (E.length : Nat))]
    unfold addP
    rcases List.eq_nil_or_concat P with rfl | ⟨Q, x, hQ⟩
    · show Option.bind (some false) _ = _
      rw [Option.bind_some, ite_f, ck_pos (decide_eq_true (by simp; omega))]; rfl
    · rw [List.concat_eq_append] at hQ
      subst hQ
      have hl : (Q ++ [x]).getLast? = some x := by simp
      have hd : (Q ++ [x]).dropLast = Q := by simp
      have hp : 0 < (Q ++ [x]).length := by simp
      rw [hl, hd, decide_eq_true (by omega : (0 : Int) < ((Q ++ [x]).length : Int)), ite_t, atI_last, Option.bind_some, Option.bind_some]
      dsimp only
      have : decide ((x.2.1, x.2.2) = (now, k)) = decide (x.2.1 = now ∧ x.2.2 = k) := by rw [decide_eq_decide, Prod.mk.injEq]
      rw [this, ite_d]
      by_cases c : x.2.1 = now ∧ x.2.2 = k
      · rw [if_pos c, if_pos c, Option.bind_some, List.length_append, List.length_singleton, ixN_last, Option.bind_some, set_last]; rfl
      · rw [if_neg c, if_neg c, ck_pos (decide_eq_true (by omega))]; rfl
theorem ub_stop {L : List Int} {E : List (Option Int)} {P : List O3} {now : Int} (sp : ¬ 0 < L.sum) {kc : US → Option (List O3 × List (Option Int))} : ub O Ky (L, E, P, now) kc = some (P, E) := by
  unfold ub
  dsimp only
  rw [decide_eq_false sp, ite_f]
theorem sum_pos {L : List Int} {k : Int} (k0 : 0 ≤ k) (k1 : k < L.length) (kl : 0 < L.getD k.toNat 0) (nn : ∀ x ∈ L, 0 ≤ x) : 0 < L.sum := by
  obtain ⟨n, rfl⟩ := Int.eq_ofNat_of_zero_le k0
  have hn : n < L.length := by omega
  rw [Int.toNat_natCast, List.getD_eq_getElem?_getD, List.getElem?_eq_getElem hn, Option.getD_some] at kl
  clear k0 k1
  induction L generalizing n with
  | nil => simp at hn
  | cons x L ih =>
    rw [List.sum_cons]
    have hx := nn x (List.mem_cons_self ..)
    have hs : 0 ≤ L.sum := by
      have := sum_nn (f := fun x => x) (L := L) fun k m => nn k (List.mem_cons_of_mem _ m)
      simpa using this
    cases n with
    | zero => simp at kl; omega
    | succ n =>
      simp at kl hn
      have := ih (fun k m => nn k (List.mem_cons_of_mem _ m)) n hn kl
      omega
theorem nn_of {L : List Int} (h : ∀ k : Int, 0 ≤ k → k < L.length → 0 ≤ L.getD k.toNat 0) : ∀ x ∈ L, 0 ≤ x := fun x mx => by
  obtain ⟨n, hn, rfl⟩ := List.getElem_of_mem mx
  have := h n (by omega) (by omega)
  rw [Int.toNat_natCast, List.getD_eq_getElem?_getD, List.getElem?_eq_getElem hn, Option.getD_some] at this
  exact this
/-- nobody is ready till v -/
theorem idle_run (hO : O.length ≤ 1000) {L : List Int} {E : List (Option Int)} {P : List O3} (hL : L.length = O.length) (hK : Ky.length = O.length) (sp : 0 < L.sum) : ∀ (s : Nat) (now : Int) (N : Nat), (∀ k : Int, 0 ≤ k → k < O.length → (nth O k).1 < now + s → ¬ 0 < L.getD k.toNat 0) → whileO (N + s) (L, E, P, now) (ub O Ky) = whileO N (L, E, P, now + s) (ub O Ky)
  | 0, now, N, _ => by rw [show now + ((0 : Nat) : Int) = now by omega]; rfl
  | s + 1, now, N, h => by
    show ub O Ky (L, E, P, now) _ = _
    rw [ub_idle hO hL hK sp (fun k k0 k1 hc => h k k0 k1 (by omega)), show now + ((s + 1 : Nat) : Int) = (now + 1) + (s : Int) by omega]
    exact idle_run hO hL hK sp s (now + 1) N fun k k0 k1 hc => h k k0 k1 (by omega)
theorem addP_form (P : List O3) (now a i : Int) : ∃ Q s, ∀ j, addP P now a j = Q ++ [(s, now + j, a)] := by
  unfold addP
  cases h : P.getLast? with
  | none => exact ⟨P, now, fun j => rfl⟩
  | some x =>
    dsimp only
    by_cases c : x.2.1 = now ∧ x.2.2 = a
    · exact ⟨P.dropLast, x.1, fun j => by rw [if_pos c]⟩
    · exact ⟨P, now, fun j => by rw [if_neg c]⟩
theorem addP_addP {P : List O3} {now a i j : Int} : addP (addP P now a i) (now + i) a j = addP P now a (i + j) := by
  obtain ⟨Q, s, h⟩ := addP_form P now a i
  rw [h i, h (i + j)]
  unfold addP
  have hl : (Q ++ [(s, now + i, a)]).getLast? = some (s, now + i, a) := by simp
  have hd : (Q ++ [(s, now + i, a)]).dropLast = Q := by simp
  rw [hl, hd]
  dsimp only
  rw [if_pos ⟨rfl, rfl⟩, show now + i + j = now + (i + j) by omega]
/-- the same order is worked at for s units -/
theorem work_run (hO : O.length ≤ 1000) {a : Int} (a0 : 0 ≤ a) (a1 : a < O.length) (hK : Ky.length = O.length) : ∀ (s : Nat) (L : List Int) (E : List (Option Int)) (P : List O3) (now : Int) (N : Nat), L.length = O.length → E.length = O.length → P.length + s < 3000 → (s : Int) ≤ L.getD a.toNat 0 → (∀ x ∈ L, 0 ≤ x) → (nth O a).1 ≤ now →
    (∀ j : Int, 0 ≤ j → j < O.length → (nth O j).1 < now + s → 0 < L.getD j.toNat 0 → Ky.getD a.toNat 0 < Ky.getD j.toNat 0 ∨ (Ky.getD a.toNat 0 = Ky.getD j.toNat 0 ∧ a ≤ j)) → 1 ≤ s →
    whileO (N + s) (L, E, P, now) (ub O Ky) = whileO N (L.set a.toNat (L.getD a.toNat 0 - s), E.set a.toNat (some (now + s)), addP P now a s, now + s) (ub O Ky)
  | 0, _, _, _, _, _, _, _, _, _, _, _, _, h => by omega
  | s + 1, L, E, P, now, N, hL, hE, hP, hs, nn, hc, hf, _ => by
    have kl : 0 < L.getD a.toNat 0 := by omega
    show ub O Ky (L, E, P, now) _ = _
    rw [ub_work hO hL hK hE (by omega) (sum_pos a0 (by omega) kl nn) a0 a1 hc kl fun j j0 j1 h1 h2 => hf j j0 j1 (by omega) h2]
    by_cases z : s = 0
    · subst z
      rfl
    · obtain ⟨Q, s0, hform⟩ := addP_form P now a 1
      have lP : (addP P now a 1).length ≤ P.length + 1 := by
        unfold addP
        cases h : P.getLast? with
        | none => simp
        | some x =>
          dsimp only
          split
          · simp
          · simp
      have ga : (L.set a.toNat (L.getD a.toNat 0 - 1)).getD a.toNat 0 = L.getD a.toNat 0 - 1 := by rw [set_get a0 (by omega) a0, if_pos rfl]
      have ih := work_run hO a0 a1 hK s (L.set a.toNat (L.getD a.toNat 0 - 1)) (E.set a.toNat (some (now + 1))) (addP P now a 1) (now + 1) N (by rw [List.length_set]; exact hL) (by rw [List.length_set]; exact hE) (by omega) (by rw [ga]; omega) (fun x mx => by
        rcases List.mem_or_eq_of_mem_set mx with m | rfl
        · exact nn x m
        · omega) (by omega) (fun j j0 j1 h1 h2 => hf j j0 j1 (by omega) (by
        rw [set_get a0 (by omega) j0] at h2
        split at h2
        · rename_i e; subst e; exact kl
        · exact h2)) (by omega)
      refine Eq.trans ih ?_
      rw [ga, List.set_set, List.set_set, addP_addP, show L.getD a.toNat 0 - 1 - (s : Int) = L.getD a.toNat 0 - ((s + 1 : Nat) : Int) by omega, show now + 1 + (s : Int) = now + ((s + 1 : Nat) : Int) by omega, show (1 : Int) + (s : Int) = ((s + 1 : Nat) : Int) by omega]
end
section
variable {O : List O3}
theorem sum_upd_on {f f' : Int → Int} {a s : Int} {L : List Int} (nd : L.Nodup) (hL : ∀ k ∈ L, 0 ≤ k ∧ k < (O.length : Int)) (h : ∀ k : Int, 0 ≤ k → k < O.length → f' k = if k = a then f k + s else f k) (a0 : 0 ≤ a) (a1 : a < O.length) : (L.map f').sum = (L.map f).sum + (if a ∈ L then s else 0) :=
  sum_upd nd (fun k m z => by rw [h k (hL k m).1 (hL k m).2, if_neg z]) (by rw [h a a0 a1, if_pos rfl])
theorem mu_dec {st st' : CT_Shop} {a size : Int} (s : SI O st) (a0 : 0 ≤ a) (a1 : a < O.length) (al : lf st a ≠ 0) (ul : size ≤ lf st a) (s1 : 1 ≤ size) (lft : ∀ k : Int, 0 ≤ k → k < O.length → lf st' k = if k = a then lf st k - size else lf st k) (nw : st'.2.2.2.2 = st.2.2.2.2 + size) (cs : size = lf st a ∨ ∃ k : Int, (0 ≤ k ∧ k < O.length) ∧ st.2.2.2.2 < (nth O k).1 ∧ (nth O k).1 = st.2.2.2.2 + size) : mu O st' < mu O st := by
  unfold mu
  rw [nw]
  have h1 : ∀ x ∈ rangeL 0 (O.length : Int), decide (lf st' x ≠ 0) = true → decide (lf st x ≠ 0) = true := fun x mx h => by
    have mx := mem_rng.1 mx
    have h := of_decide_eq_true h
    rw [lft x mx.1 mx.2] at h
    refine decide_eq_true ?_
    split at h
    · rename_i c; subst c; exact al
    · exact h
  have h2 : ∀ x ∈ rangeL 0 (O.length : Int), decide (st.2.2.2.2 + size < (nth O x).1) = true → decide (st.2.2.2.2 < (nth O x).1) = true := fun x mx h => decide_eq_true (by have := of_decide_eq_true h; omega)
  have m1 := List.countP_mono_left h1
  have m2 := List.countP_mono_left h2
  rcases cs with e | ⟨k, ⟨k0, k1⟩, e1, e2⟩
  · have := countP_lt _ h1 ⟨a, mem_rng.2 ⟨a0, a1⟩, decide_eq_true al, by
      rw [lft a a0 a1, if_pos rfl]
      exact decide_eq_false (fun z => z (by omega))⟩
    omega
  · have := countP_lt _ h2 ⟨k, mem_rng.2 ⟨k0, k1⟩, decide_eq_true e1, decide_eq_false (by omega)⟩
    omega
theorem cs_all {f : Int → Int} {a s t0 d : Int} {f' : Int → Int} (h : ∀ k : Int, 0 ≤ k → k < O.length → f' k = if k = a then f k + s else f k) (a0 : 0 ≤ a) (a1 : a < O.length) : ((Cs O t0 d).map f').sum = ((Cs O t0 d).map f).sum + (if a ∈ Cs O t0 d then s else 0) :=
  sum_upd_on Cs_nodup (fun k m => (mem_Cs.1 m).1) h a0 a1
def eV (P : List O3) (k : Int) : Int := (lastE P k).getD 0
def MatchE (O : List O3) (E : List (Option Int)) (P : List O3) : Prop := E.length = O.length ∧ ∀ k : Int, 0 ≤ k → k < O.length → E.getD k.toNat none = some (eV P k)
theorem SI.now (o : OOk O) {st : CT_Shop} (s : SI O st) : st.2.2.2.2 ≤ 1000 := by
  have hO := o.len
  have h := s.nb.2
  have : ((rangeL 0 (O.length : Int)).map fun k => (nth O k).2.1 - lf st k).sum ≤ 100 * (rangeL 0 (O.length : Int)).length := sum_bd fun k m => by
    have m := mem_rng.1 m
    have := nthb o m.1 m.2
    have := s.lb k m.1 m.2
    omega
  rw [rng_len] at this
  omega
theorem SI.nn {st : CT_Shop} (s : SI O st) : ∀ x ∈ st.2.1, 0 ≤ x := nn_of fun k k0 k1 => (s.lb k k0 (by rw [← s.ll]; exact k1)).1
/-- the law's run keeps pace -/
def Pace (O : List O3) (st st' : CT_Shop) : Prop := ∀ (E : List (Option Int)) (N : Nat), MatchE O E st.2.2.2.1 → (N : Int) + st.2.2.2.2 = 2000 → ∃ (E' : List (Option Int)) (N' : Nat), whileO N (st.2.1, E, st.2.2.2.1, st.2.2.2.2) (ub O (O.map fun x => x.2.2)) = whileO N' (st'.2.1, E', st'.2.2.2.1, st'.2.2.2.2) (ub O (O.map fun x => x.2.2)) ∧ MatchE O E' st'.2.2.2.1 ∧ (N' : Int) + st'.2.2.2.2 = 2000
/-- a turn -/
theorem step_ok (o : OOk O) {st : CT_Shop} (s : SI O st) : ∃ b st', m_Shop_step st = some (b, st') ∧ ((b = false ∧ st' = st ∧ ∀ k : Int, 0 ≤ k → k < O.length → lf st k = 0) ∨ (b = true ∧ SI O st' ∧ mu O st' < mu O st ∧ Pace O st st')) := by
  have hK : (O.map fun x => x.2.2).length = O.length := List.length_map ..
  have hS : (1000000 : Nat) ≤ SZ := by decide
  have hO := o.len
  have rl : (rangeL 0 (O.length : Int)).length = O.length := by rw [rng_len]; omega
  unfold m_Shop_step
  dsimp only
  rw [s.or_, compO_filterMap (fun x : O3 => if decide (st.2.2.2.2 < x.1) = true then some x.1 else none) () _ [] (by simp; omega) (fun x _ kc => by split <;> rfl), List.nil_append]
  generalize hLa : (O.filterMap fun x : O3 => if decide (st.2.2.2.2 < x.1) = true then some x.1 else none) = La
  have mLa : ∀ c, c ∈ La ↔ ∃ k : Int, (0 ≤ k ∧ k < O.length) ∧ st.2.2.2.2 < (nth O k).1 ∧ (nth O k).1 = c := fun c => by
    rw [← hLa, List.mem_filterMap]
    constructor
    · rintro ⟨x, mx, e⟩
      split at e
      · rename_i z
        cases e
        obtain ⟨n, hn, rfl⟩ := List.getElem_of_mem mx
        have e : nth O (n : Int) = O[n] := by
          unfold nth
          rw [List.getD_eq_getElem?_getD, Int.toNat_natCast, List.getElem?_eq_getElem hn]; rfl
        exact ⟨n, ⟨by omega, by omega⟩, by rw [e]; exact of_decide_eq_true z, by rw [e]⟩
      · cases e
    · rintro ⟨k, ⟨k0, k1⟩, h, rfl⟩
      exact ⟨_, nth_mem k0 k1, by rw [if_pos (decide_eq_true h)]⟩
  have lLa : La.length ≤ 9 := by
    rw [← hLa]
    exact Nat.le_trans (List.length_filterMap_le _ _) hO
  obtain ⟨row, er, mr, hr⟩ := here_ok o s
  rw [er, Option.bind_some]
  cases row with
  | nil =>
    have idle : ∀ k : Int, 0 ≤ k → k < O.length → (nth O k).1 ≤ st.2.2.2.2 → lf st k = 0 := fun k k0 k1 h => Classical.byContradiction fun z => by
      have := (mr k).2 ⟨⟨k0, k1⟩, h, z⟩
      cases this
    show ∃ b st', (if (!(!List.isEmpty La)) = true then some (false, st) else _) = some (b, st') ∧ _
    cases hl : La with
    | nil =>
      refine ⟨false, st, rfl, .inl ⟨rfl, rfl, fun k k0 k1 => idle k k0 k1 (Classical.byContradiction fun z => ?_)⟩⟩
      have := (mLa (nth O k).1).2 ⟨k, ⟨k0, k1⟩, by omega, rfl⟩
      rw [hl] at this; cases this
    | cons c0 La' =>
      obtain ⟨v, ev, mv, uv⟩ := minI_some (l := c0 :: La') (by simp)
      rw [← hl] at mv uv
      obtain ⟨k0, ⟨ka, kb⟩, kc, kd⟩ := (mLa v).1 mv
      show ∃ b st', (minI (c0 :: La')).bind (fun y158 => some (true, ((O, st.2.1, st.2.2.1, st.2.2.2.1, y158) : CT_Shop))) = some (b, st') ∧ _
      rw [ev, Option.bind_some]
      have nx : ∀ k : Int, 0 ≤ k → k < O.length → st.2.2.2.2 < (nth O k).1 → v ≤ (nth O k).1 := fun k h0 h1 h => uv _ ((mLa _).2 ⟨k, ⟨h0, h1⟩, h, rfl⟩)
      have m2 : mu O (O, st.2.1, st.2.2.1, st.2.2.2.1, v) < mu O st := by
        unfold mu
        have := countP_lt (P := fun k => decide (v < (nth O k).1)) (Q := fun k => decide (st.2.2.2.2 < (nth O k).1)) (rangeL 0 (O.length : Int)) (fun k _ h => decide_eq_true (by have := of_decide_eq_true h; omega)) ⟨k0, mem_rng.2 ⟨ka, kb⟩, decide_eq_true kc, decide_eq_false (by omega)⟩
        exact Nat.add_lt_add_left this _
      have bk := nthb o ka kb
      have nn : ∀ L : List Int, (∀ k ∈ L, 0 ≤ k ∧ k < O.length) → 0 ≤ (L.map fun k => (nth O k).2.1 - lf st k).sum := fun L hL => sum_nn fun k m => by
        have := s.lb k (hL k m).1 (hL k m).2; omega
      refine ⟨true, _, rfl, .inr ⟨rfl, ⟨rfl, s.ll, s.le, s.lb, s.eq, ?_, s.enE, fun d => ⟨v, Int.le_refl _, fun k h0 h1 _ h => idle k h0 h1 (Classical.byContradiction fun z => ?_), ?_⟩, s.i6, ⟨?_, ?_⟩, fun p mp => ?_, ?_, fun k h0 h1 h => s.fut k h0 h1 (by dsimp only at h; omega)⟩, m2, fun E N mE hN => ?_⟩⟩
      · obtain ⟨b, D, e, hb, hD⟩ := s.sc
        exact ⟨b, D, e, fun b0 e0 => by have := hb b0 e0; show b0 ≤ v; omega, hD⟩
      · have := nx k h0 h1 (by omega)
        omega
      · have := nn (Cs O v d) fun k m => (mem_Cs.1 m).1
        show v - v ≤ ((Cs O v d).map fun k => (nth O k).2.1 - lf st k).sum
        omega
      · show 0 ≤ v
        omega
      · have := nn (rangeL 0 (O.length : Int)) fun k m => mem_rng.1 m
        show v ≤ 100 + ((rangeL 0 (O.length : Int)).map fun k => (nth O k).2.1 - lf st k).sum
        omega
      · have := s.pb p mp
        dsimp only
        omega
      · have := s.pl
        show st.2.2.2.1.length + mu O (O, st.2.1, st.2.2.1, st.2.2.2.1, v) ≤ 18
        omega
      · have nb := s.nb
        have nw := s.now o
        have hv : v ≤ 100 := by omega
        have fk := s.fut k0 ka kb kc
        have lk : 0 < st.2.1.getD k0.toNat 0 := by
          have : lf st k0 = st.2.1.getD k0.toNat 0 := rfl
          omega
        have run := idle_run (O := O) (Ky := O.map fun x => x.2.2) (L := st.2.1) (E := E) (P := st.2.2.2.1) (by omega) s.ll hK (sum_pos ka (by rw [s.ll]; exact kb) lk s.nn) (v - st.2.2.2.2).toNat st.2.2.2.2 (N - (v - st.2.2.2.2).toNat) fun k h0 h1 h => by
          by_cases c : (nth O k).1 ≤ st.2.2.2.2
          · have := idle k h0 h1 c
            have e : lf st k = st.2.1.getD k.toNat 0 := rfl
            omega
          · have := nx k h0 h1 (by omega)
            omega
        rw [show N - (v - st.2.2.2.2).toNat + (v - st.2.2.2.2).toNat = N by omega, show st.2.2.2.2 + ((v - st.2.2.2.2).toNat : Int) = v by omega] at run
        exact ⟨E, N - (v - st.2.2.2.2).toNat, run, mE, by dsimp only; omega⟩
  | cons a row' =>
    obtain ⟨⟨a0, a1⟩, ac, al⟩ := (mr a).1 (List.mem_cons_self ..)
    have ba := nthb o a0 a1
    have la := s.lb a a0 a1
    rw [show (!(!List.isEmpty (a :: row'))) = false from rfl, ite_f, show atI (a :: row') (0 : Int) = some a from Z.atI_nat (i := 0) (xs := a :: row') (by simp), Option.bind_some, at_getD 0 a0 (by rw [s.ll]; exact a1), Option.bind_some, compO_map (fun x : Int => x - st.2.2.2.2) () _ [] (by simp; omega) (fun _ _ _ => rfl), List.nil_append, ck_pos (decide_eq_true (by simp; omega))]
    obtain ⟨size, es, ms, us⟩ := minI_some (l := [st.2.1.getD a.toNat 0] ++ La.map fun x => x - st.2.2.2.2) (by simp)
    rw [es, Option.bind_some]
    have ul : size ≤ lf st a := us _ (by simp; exact .inl rfl)
    have un : ∀ k : Int, 0 ≤ k → k < O.length → st.2.2.2.2 < (nth O k).1 → st.2.2.2.2 + size ≤ (nth O k).1 := fun k h0 h1 h => by
      have := us ((nth O k).1 - st.2.2.2.2) (List.mem_append_right _ (List.mem_map.2 ⟨_, (mLa _).2 ⟨k, ⟨h0, h1⟩, h, rfl⟩, rfl⟩))
      omega
    have cases_ : size = lf st a ∨ ∃ k : Int, (0 ≤ k ∧ k < O.length) ∧ st.2.2.2.2 < (nth O k).1 ∧ (nth O k).1 = st.2.2.2.2 + size := by
      rcases List.mem_append.1 ms with m | m
      · simp at m; exact .inl m
      · obtain ⟨c, mc, e⟩ := List.mem_map.1 m
        obtain ⟨k, hk, h1, h2⟩ := (mLa c).1 mc
        exact .inr ⟨k, hk, h1, by omega⟩
    have s1 : 1 ≤ size := by
      rcases cases_ with e | ⟨k, _, h, e⟩ <;> omega
    have hpl := s.pl
    rw [note_ok (by omega) a0 (by rw [s.ll]; exact a1) (by rw [s.le]; exact a1), Option.bind_some]
    generalize hP : addP st.2.2.2.1 st.2.2.2.2 a size = P
    obtain ⟨b, D, sc, hb, hD, hDv⟩ := s.sc
    obtain ⟨D', sc', hD', hDv', hlE, hpn⟩ := addP_ok sc hb hD a0 a1 s1 ac
    rw [hP] at sc' hlE hpn
    have lft : ∀ k : Int, 0 ≤ k → k < O.length → lf (tl st P a size) k = if k = a then lf st k - size else lf st k := fun k k0 _ => by
      rw [lf_tl a0 (by rw [s.ll]; exact a1) k0]
      by_cases c : k = a
      · rw [if_pos c, if_pos c, c]
      · rw [if_neg c, if_neg c]
    have ent : ∀ k : Int, 0 ≤ k → k < O.length → en_ (tl st P a size) k = if k = a ∧ lf st a - size = 0 then some (st.2.2.2.2 + size) else en_ st k := fun k k0 _ => en_tl a0 (by rw [s.le]; exact a1) k0
    have nw : (tl st P a size).2.2.2.2 = st.2.2.2.2 + size := rfl
    have pc : (tl st P a size).2.2.2.1 = P := rfl
    have dn : ∀ k : Int, 0 ≤ k → k < O.length → (nth O k).2.1 - lf (tl st P a size) k = if k = a then ((nth O k).2.1 - lf st k) + size else (nth O k).2.1 - lf st k := fun k k0 k1 => by
      rw [lft k k0 k1]
      split <;> omega
    have rec_ : ∀ k : Int, 0 ≤ k → k < O.length → lf st k ≠ 0 → (nth O k).1 ≤ st.2.2.2.2 → (nth O a).2.2 ≤ (nth O k).2.2 := fun k k0 k1 h1 h2 => by
      have := hr a row' rfl k ((mr k).2 ⟨⟨k0, k1⟩, h2, h1⟩)
      omega
    have i5 : ∀ d, ∃ t0, t0 ≤ (tl st P a size).2.2.2.2 ∧ (∀ k : Int, 0 ≤ k → k < O.length → (nth O k).2.2 ≤ d → (nth O k).1 < t0 → lf (tl st P a size) k = 0) ∧ (tl st P a size).2.2.2.2 - t0 ≤ ((Cs O t0 d).map fun k => (nth O k).2.1 - lf (tl st P a size) k).sum ∧ ((nth O a).2.2 ≤ d → t0 ≤ (nth O a).1) := fun d => by
      rw [nw]
      by_cases c : (nth O a).2.2 ≤ d
      · obtain ⟨t0, q1, q2, q3⟩ := s.i5 d
        have ta : t0 ≤ (nth O a).1 := Classical.byContradiction fun z => al (q2 a a0 a1 c (by omega))
        refine ⟨t0, by omega, fun k k0 k1 h1 h2 => ?_, ?_, fun _ => ta⟩
        · have := q2 k k0 k1 h1 h2
          rw [lft k k0 k1, if_neg (fun z => by subst z; exact al this)]
          exact this
        · rw [cs_all (f := fun k => (nth O k).2.1 - lf st k) (a := a) (s := size) dn a0 a1, if_pos (mem_Cs.2 ⟨⟨a0, a1⟩, ta, c⟩)]
          omega
      · refine ⟨st.2.2.2.2 + size, Int.le_refl _, fun k k0 k1 h1 h2 => ?_, ?_, fun z => absurd z c⟩
        · have hk : k ≠ a := fun z => by subst z; exact c h1
          rw [lft k k0 k1, if_neg hk]
          refine Classical.byContradiction fun z => ?_
          have hn : (nth O k).1 ≤ st.2.2.2.2 := Classical.byContradiction fun y => by
            have := un k k0 k1 (by omega); omega
          have := rec_ k k0 k1 z hn
          omega
        · have : 0 ≤ ((Cs O (st.2.2.2.2 + size) d).map fun k => (nth O k).2.1 - lf (tl st P a size) k).sum := sum_nn fun k m => by
            have hk := (mem_Cs.1 m).1
            have := s.lb k hk.1 hk.2
            rw [dn k hk.1 hk.2]
            split <;> omega
          omega
    refine ⟨true, _, rfl, .inr ⟨rfl, ⟨s.or_, ?_, ?_, fun k k0 k1 => ?_, fun k k0 k1 => ?_, ⟨some (st.2.2.2.2 + size), D', sc', fun b0 e => by cases e; exact Int.le_refl _, hD', fun k k0 k1 => ?_⟩, fun k e k0 k1 h => ?_, fun d => ?_, fun k e k0 k1 h => ?_, ⟨?_, ?_⟩, fun p mp => ?_, ?_, fun k k0 k1 h => ?_⟩, ?_, fun E N mE hN => ?_⟩⟩
    · show (st.2.1.set _ _).length = _
      rw [List.length_set]; exact s.ll
    · show (if _ then st.2.2.1.set _ _ else st.2.2.1).length = _
      split
      · rw [List.length_set]; exact s.le
      · exact s.le
    · have := s.lb k k0 k1
      rw [lft k k0 k1]
      split
      · rename_i c; subst c; omega
      · exact this
    · rw [lft k k0 k1, ent k k0 k1]
      have he := s.eq k k0 k1
      by_cases c : k = a
      · subst c
        rw [if_pos rfl]
        by_cases z : lf st k - size = 0
        · rw [if_pos ⟨rfl, z⟩]
          exact ⟨fun y => (by cases y), fun y => absurd z y⟩
        · rw [if_neg (fun y => z y.2)]
          exact ⟨fun _ => z, fun _ => he.2 al⟩
      · rw [if_neg c, if_neg (fun y => c y.1)]
        exact he
    · rw [hDv' k k0 k1, hDv k k0 k1, lft k k0 k1]
      split <;> omega
    · rw [ent k k0 k1] at h
      rw [pc, hlE]
      by_cases c : k = a
      · subst c
        by_cases z : lf st k - size = 0
        · rw [if_pos ⟨rfl, z⟩] at h
          rw [if_pos rfl, h]
        · rw [if_neg (fun y => z y.2)] at h
          rw [(s.eq k k0 k1).2 al] at h; cases h
      · rw [if_neg (fun y => c y.1)] at h
        rw [if_neg c]; exact s.enE k e k0 k1 h
    · obtain ⟨t0, q1, q2, q3, _⟩ := i5 d
      exact ⟨t0, q1, q2, q3⟩
    · rw [ent k k0 k1] at h
      by_cases c : k = a ∧ lf st a - size = 0
      · rw [if_pos c] at h
        obtain ⟨rfl, c2⟩ := c
        obtain ⟨t0, q1, q2, q3, q4⟩ := i5 (nth O k).2.2
        refine ⟨t0, q4 (Int.le_refl _), ?_⟩
        have e1 : e = st.2.2.2.2 + size := by cases h; rfl
        have : ((Cs O t0 (nth O k).2.2).map fun j => (nth O j).2.1 - lf (tl st P k size) j).sum ≤ ((Cs O t0 (nth O k).2.2).map fun j => (nth O j).2.1).sum := sum_le fun j m => by
          have hj := (mem_Cs.1 m).1
          have := s.lb j hj.1 hj.2
          rw [dn j hj.1 hj.2]
          split
          · rename_i z; subst z; omega
          · omega
        rw [nw] at q3
        omega
      · rw [if_neg c] at h
        exact s.i6 k e k0 k1 h
    · rw [nw]
      have := s.nb.1
      omega
    · rw [nw]
      have := s.nb.2
      rw [sum_upd_on (f := fun k => (nth O k).2.1 - lf st k) (a := a) (s := size) rng_nodup (fun k m => mem_rng.1 m) dn a0 a1, if_pos (mem_rng.2 ⟨a0, a1⟩)]
      omega
    · have nb := s.nb.1
      rw [pc] at mp
      rw [nw]
      rw [← hP] at mp
      unfold addP at mp
      have old : p ∈ st.2.2.2.1 → (0 ≤ p.1 ∧ p.1 ≤ st.2.2.2.2 + size) ∧ (0 ≤ p.2.1 ∧ p.2.1 ≤ st.2.2.2.2 + size) ∧ 0 ≤ p.2.2 ∧ p.2.2 < O.length := fun m => by
        have := s.pb p m; omega
      have fresh : p ∈ st.2.2.2.1 ++ [(st.2.2.2.2, st.2.2.2.2 + size, a)] → (0 ≤ p.1 ∧ p.1 ≤ st.2.2.2.2 + size) ∧ (0 ≤ p.2.1 ∧ p.2.1 ≤ st.2.2.2.2 + size) ∧ 0 ≤ p.2.2 ∧ p.2.2 < O.length := fun m => by
        rcases List.mem_append.1 m with m | m
        · exact old m
        · simp at m; subst m; dsimp only; omega
      cases hl : st.2.2.2.1.getLast? with
      | none => rw [hl] at mp; exact fresh mp
      | some x =>
        rw [hl] at mp
        dsimp only at mp
        split at mp
        · rcases List.mem_append.1 mp with m | m
          · exact old ((List.dropLast_sublist _).subset m)
          · have := s.pb x (List.mem_of_getLast? hl)
            simp at m; subst m; dsimp only; omega
        · exact fresh mp
    · have m2 : mu O (tl st P a size) < mu O st := mu_dec s a0 a1 al ul s1 lft nw cases_
      have := s.pl
      show P.length + mu O (tl st P a size) ≤ 18
      omega
    · rw [nw] at h
      have := un k k0 k1 (by omega)
      have fk := s.fut k k0 k1 (by omega)
      rw [lft k k0 k1, if_neg (fun z => by subst z; omega)]
      exact fk
    · exact mu_dec s a0 a1 al ul s1 lft nw cases_
    · have nb := s.nb
      have nw1 := s.now o
      have lfa : lf st a = st.2.1.getD a.toNat 0 := rfl
      have szb : size ≤ 100 := by omega
      have run := work_run (O := O) (Ky := O.map fun x => x.2.2) (by omega) a0 a1 hK size.toNat st.2.1 E st.2.2.2.1 st.2.2.2.2 (N - size.toNat) s.ll mE.1 (by omega) (by omega) s.nn ac (fun j j0 j1 h1 h2 => by
        have c : (nth O j).1 ≤ st.2.2.2.2 := Classical.byContradiction fun z => by
          have := un j j0 j1 (by omega); omega
        have := hr a row' rfl j ((mr j).2 ⟨⟨j0, j1⟩, c, fun z => by
          have e : lf st j = st.2.1.getD j.toNat 0 := rfl
          omega⟩)
        rw [map_get (f := fun x => x.2.2) a0 a1, map_get (f := fun x => x.2.2) j0 j1]
        exact this) (by omega)
      rw [show N - size.toNat + size.toNat = N by omega, show (size.toNat : Int) = size by omega, hP] at run
      refine ⟨_, N - size.toNat, run, ⟨by rw [List.length_set]; exact mE.1, fun k k0 k1 => ?_⟩, by rw [nw]; omega⟩
      rw [set_get a0 (by rw [mE.1]; exact a1) k0, pc]
      unfold eV
      rw [hlE]
      by_cases c : k = a
      · rw [if_pos c, if_pos c]; rfl
      · rw [if_neg c, if_neg c]; exact mE.2 k k0 k1
end
/-! ### the run of the shop -/
section
variable {O : List O3}
def AllD (O : List O3) (st : CT_Shop) : Prop := ∀ k : Int, 0 ≤ k → k < O.length → lf st k = 0
theorem sum_zero : ∀ {L : List Int}, (∀ x ∈ L, x = 0) → L.sum = 0
  | [], _ => rfl
  | x :: L, h => by rw [List.sum_cons, h x (List.mem_cons_self ..), sum_zero fun y m => h y (List.mem_cons_of_mem _ m)]; rfl
theorem all_zero {L : List Int} (h : ∀ k : Int, 0 ≤ k → k < L.length → L.getD k.toNat 0 = 0) : ∀ x ∈ L, x = 0 := fun x mx => by
  obtain ⟨n, hn, rfl⟩ := List.getElem_of_mem mx
  have := h n (by omega) (by omega)
  rw [Int.toNat_natCast, List.getD_eq_getElem?_getD, List.getElem?_eq_getElem hn, Option.getD_some] at this
  exact this
theorem ext_get {α : Type} {d : α} {E F : List α} (hl : E.length = F.length) (h : ∀ k : Int, 0 ≤ k → k < E.length → E.getD k.toNat d = F.getD k.toNat d) : E = F := by
  refine List.ext_getElem hl fun n h1 h2 => ?_
  have := h n (by omega) (by omega)
  rw [Int.toNat_natCast, List.getD_eq_getElem?_getD, List.getElem?_eq_getElem h1, List.getD_eq_getElem?_getD, List.getElem?_eq_getElem h2] at this
  exact this
theorem work_ok (o : OOk O) (ne : O ≠ []) : ∃ st, m_worked 2000 O = some (st.2.2.2.1, st.2.2.1) ∧ SI O st ∧ AllD O st ∧ m__law_worked 2000 O (O.map fun x => x.2.2) = some (st.2.2.2.1, st.2.2.1) := by
  have hO := o.len
  obtain ⟨st0, e0, s0, e1, e2, e3⟩ := init_ok o ne
  rw [law_worked_eq 2000 (by omega)]
  have lp := List.length_pos_iff.2 ne
  have b0 := nthb o (O := O) (k := 0) (Int.le_refl _) (by omega)
  have nb0 := s0.nb
  have nw0 := e3 0 (Int.le_refl _) (by omega)
  have hl0 : (O.map fun x => x.2.1).length = O.length := List.length_map ..
  have run0 := idle_run (O := O) (Ky := O.map fun x => x.2.2) (L := O.map fun x => x.2.1) (E := O.map fun _ => some (0 : Int)) (P := []) (by omega) hl0 (List.length_map ..) (sum_pos (k := 0) (Int.le_refl _) (by rw [hl0]; omega) (by rw [map_get (f := fun x => x.2.1) (Int.le_refl _) (by omega)]; omega) (nn_of fun k k0 k1 => by
      rw [hl0] at k1
      rw [map_get (f := fun x => x.2.1) k0 k1]
      have := nthb o k0 k1
      omega)) st0.2.2.2.2.toNat 0 (2000 - st0.2.2.2.2.toNat) fun k k0 k1 h => by
    have := e3 k k0 k1
    omega
  rw [show 2000 - st0.2.2.2.2.toNat + st0.2.2.2.2.toNat = 2000 by omega, show (0 : Int) + (st0.2.2.2.2.toNat : Int) = st0.2.2.2.2 by omega, ← e2, ← e1] at run0
  rw [← e2, ← e1, run0]
  unfold m_worked
  rw [e0, Option.bind_some]
  dsimp only
  suffices ∀ (fu : Nat) (st : CT_Shop) (E : List (Option Int)) (N : Nat), SI O st → mu O st < fu → MatchE O E st.2.2.2.1 → (N : Int) + st.2.2.2.2 = 2000 → ∃ st', whileO fu st (fun (t193 : CT_Shop) kc194 => (
    (m_Shop_step t193).bind fun r197 =>
    if r197.1 = true then (
      kc194 r197.2)
    else some (r197.2.2.2.2.1, r197.2.2.2.1))) = some (st'.2.2.2.1, st'.2.2.1) ∧ SI O st' ∧ AllD O st' ∧ whileO N (st.2.1, E, st.2.2.2.1, st.2.2.2.2) (ub O (O.map fun x => x.2.2)) = some (st'.2.2.2.1, st'.2.2.1) by
    refine this 2000 st0 _ _ s0 (by have := mu_le o st0; omega) ⟨List.length_map .., fun k k0 k1 => ?_⟩ (by omega)
    rw [e1]
    obtain ⟨n, rfl⟩ := Int.eq_ofNat_of_zero_le k0
    have hn : n < O.length := by omega
    rw [List.getD_eq_getElem?_getD, List.getElem?_map, Int.toNat_natCast, List.getElem?_eq_getElem hn]; rfl
  intro fu
  induction fu with
  | zero => intro st _ _ _ h; omega
  | succ fu ih =>
    intro st E N s h mE hN
    obtain ⟨b, st', e, h2⟩ := step_ok o s
    show ∃ st', ((m_Shop_step st).bind _) = _ ∧ _
    rw [e, Option.bind_some]
    rcases h2 with ⟨rfl, rfl, h3⟩ | ⟨rfl, h3, h4, h5⟩
    · refine ⟨st', rfl, s, h3, ?_⟩
      have nw := s.now o
      obtain ⟨M, rfl⟩ : ∃ M, N = M + 1 := ⟨N - 1, by omega⟩
      show ub O (O.map fun x => x.2.2) (st'.2.1, E, st'.2.2.2.1, st'.2.2.2.2) _ = _
      have hz : st'.2.1.sum = 0 := sum_zero (all_zero fun k k0 k1 => h3 k k0 (by rw [← s.ll]; exact k1))
      rw [ub_stop (by rw [hz]; decide)]
      have : E = st'.2.2.1 := ext_get (d := none) (by rw [mE.1, s.le]) fun k k0 k1 => by
        rw [mE.1] at k1
        rw [mE.2 k k0 k1]
        have := s.eq k k0 k1
        have hk := h3 k k0 k1
        cases q : en_ st' k with
        | none => exact absurd hk (this.1 q)
        | some e =>
          have q2 := s.enE k e k0 k1 q
          unfold eV
          rw [q2]
          exact q.symm
      rw [this]
    · obtain ⟨E', N', r1, r2, r3⟩ := h5 E N mE hN
      obtain ⟨st2, q1, q2, q3, q4⟩ := ih st' E' N' h3 (by omega) r2 r3
      exact ⟨st2, q1, q2, q3, by rw [r1]; exact q4⟩
/-! ### faults of pieces -/
def timeR (O : List O3) (D : List Int) : PyData := ((rangeL 0 (O.length : Int)).find? fun k => decide (D.getD k.toNat 0 ≠ (nth O k).2.1)).elim .none fun k => wd1 "time" k
def pfR (O : List O3) (P : List O3) : PyData := match scan O P 0 none (List.replicate O.length 0) with
  | .inl d => d
  | .inr (_, D) => timeR O D
theorem rng_test {x : Int} {n : Nat} : (if decide ((0 : Int) ≤ x) = true then some (decide (x < (n : Int))) else some false) = some (decide (0 ≤ x ∧ x < (n : Int))) := by
  by_cases c : 0 ≤ x
  · simp [c]
  · simp [c]
def bad (O : List O3) (b : Option Int) (x : O3) : Prop := ¬ (0 ≤ x.2.2 ∧ x.2.2 < O.length) ∨ x.2.1 ≤ x.1 ∨ ∃ b0, b = some b0 ∧ x.1 < b0
instance {b : Option Int} {x : O3} : Decidable (bad O b x) := inferInstanceAs (Decidable (_ ∨ _ ∨ _))
theorem bad_test {b : Option Int} {x : O3} {t : Option Bool} (ht : t = some (decide (∃ b0, b = some b0 ∧ x.1 < b0))) :
    ((if decide ((0 : Int) ≤ x.2.2) = true then (some (decide (x.2.2 < (List.length O : Int)))) else some false).bind fun z365 : Bool =>
      if (!z365) = true then some true else (
      if (decide (x.2.1 ≤ x.1)) = true then some true else (t.bind fun z372 : Bool =>
      some z372))) = some (decide (bad O b x)) := by
  rw [rng_test, Option.bind_some, ht, Option.bind_some]
  by_cases c1 : 0 ≤ x.2.2 ∧ x.2.2 < (O.length : Int)
  · rw [decide_eq_true c1, ite_nt]
    by_cases c2 : x.2.1 ≤ x.1
    · rw [decide_eq_true c2, ite_t, decide_eq_true (show bad O b x from .inr (.inl c2))]
    · rw [decide_eq_false c2, ite_f]
      congr 1
      rw [decide_eq_decide]
      exact ⟨fun h => .inr (.inr h), fun h => h.elim (fun z => absurd c1 z) fun h => h.elim (fun z => absurd z c2) id⟩
  · rw [decide_eq_false c1, ite_nf, decide_eq_true (show bad O b x from .inl c1)]
theorem stp_eq {Ω : Type} {k : Nat} {b : Option Int} {D : List Int} {x : O3} (hD : D.length = O.length) {K : List Int → Option PyData} :
    (if decide (bad O b x) = true then (
        some (PyData.tuple [PyData.str ("piece" : Str), PyData.int (k : Int)]))
      else (
        (atI O x.2.2).bind fun y379 =>
        if (decide (x.1 < y379.1)) = true then (
          some (PyData.tuple [PyData.str ("come" : Str), PyData.int (k : Int)]))
        else (
          (atI D x.2.2).bind fun y386 =>
          (ixN (List.length D) x.2.2).bind fun n396 =>
          K (List.set D n396 ((y386 + x.2.1) - x.1))))) = match stp O k b D x with
      | .inl d => some d
      | .inr D' => K D' := by
  rw [show stp O k b D x = (if bad O b x then .inl (wd' "piece" k) else if x.1 < (nth O x.2.2).1 then .inl (wd' "come" k) else .inr (D.set x.2.2.toNat (D.getD x.2.2.toNat 0 + x.2.1 - x.1))) from rfl]
  by_cases c : bad O b x
  · rw [decide_eq_true c, ite_t, if_pos c]; rfl
  · have c1 : 0 ≤ x.2.2 ∧ x.2.2 < (O.length : Int) := Classical.byContradiction fun z => c (.inl z)
    rw [decide_eq_false c, ite_f, if_neg c, at_nth c1.1 c1.2, Option.bind_some, ite_d]
    by_cases c2 : x.1 < (nth O x.2.2).1
    · rw [if_pos c2, if_pos c2]; rfl
    · rw [if_neg c2, if_neg c2, at_getD 0 c1.1 (by omega), Option.bind_some, ixN_in c1.1 (by omega), Option.bind_some]
theorem wl_shift {α : Type} {xs : List α} {k : Nat} : ((enumL xs).map fun p => (p.1 + 1, p.2)).map (fun p => (p.1 + (k : Int), p.2)) = (enumL xs).map fun p => (p.1 + ((k + 1 : Nat) : Int), p.2) := by
  rw [List.map_map]
  refine List.map_congr_left fun p _ => ?_
  show (p.1 + 1 + (k : Int), p.2) = _
  rw [show p.1 + 1 + (k : Int) = p.1 + ((k + 1 : Nat) : Int) by omega]
theorem isS {b : Option Int} : (!isNone ((eO eI nnI).enc b)) = b.isSome := by cases b <;> rfl
theorem isS0 {b : Option Int} {s : Int} : (if (!isNone ((eO eI nnI).enc b)) = true then (b.bind fun y371 => some (decide (s < y371))) else some false) = some (decide (∃ b0, b = some b0 ∧ s < b0)) := by
  rw [isS]
  cases b with
  | none => rfl
  | some v =>
    show some (decide (s < v)) = _
    congr 1
    rw [decide_eq_decide]
    exact ⟨fun h => ⟨v, rfl, h⟩, fun ⟨_, e, h⟩ => by cases e; exact h⟩
theorem ploop {K : List Int → Option PyData} : ∀ (Q : List O3) (k : Nat) (b : Option Int) (D : List Int), D.length = O.length → forO ((enumL Q).map fun p => (p.1 + (k : Int), p.2)) (D, b) (fun x357 (t356 : ((List Int) × (Option Int))) kc358 => (
      ((if decide ((0 : Int) ≤ x357.2.2.2) = true then (some (decide (x357.2.2.2 < (List.length O : Int)))) else some false).bind fun z365 : Bool =>
      if (!z365) = true then some true else (
      if (decide (x357.2.2.1 ≤ x357.2.1)) = true then some true else ((
      if (!isNone ((eO eI nnI).enc t356.2)) = true then (t356.2.bind fun y371 =>
      some (decide (x357.2.1 < y371))) else some false).bind fun z372 : Bool =>
      some z372))).bind fun z373 : Bool =>
      if z373 = true then (
        some (PyData.tuple [PyData.str ("piece" : Str), PyData.int x357.1]))
      else (
        (atI O x357.2.2.2).bind fun y379 =>
        if (decide (x357.2.1 < y379.1)) = true then (
          some (PyData.tuple [PyData.str ("come" : Str), PyData.int x357.1]))
        else (
          (atI t356.1 x357.2.2.2).bind fun y386 =>
          (ixN (List.length t356.1) x357.2.2.2).bind fun n396 =>
          kc358 (List.set t356.1 n396 ((y386 + x357.2.2.1) - x357.2.1), some x357.2.2.1))))) (fun t => K t.1) = match scan O Q k b D with
      | .inl d => some d
      | .inr (_, D') => K D'
  | [], k, b, D, _ => rfl
  | x :: Q, k, b, D, hD => by
    rw [enumL_cons, List.map_cons, wl_shift]
    unfold forO scan
    dsimp only
    rw [bad_test isS0, Option.bind_some, show (0 : Int) + (k : Int) = (k : Int) by omega]
    refine (stp_eq (Ω := PyData) (K := fun D' => forO ((enumL Q).map fun p => (p.1 + ((k + 1 : Nat) : Int), p.2)) (D', some x.2.1) _ (fun t => K t.1)) hD).trans ?_
    cases h : stp O k b D x with
    | inl d => rfl
    | inr D' =>
      have := stp_len h
      exact ploop Q (k + 1) (some x.2.1) D' (by omega)
theorem lloop {P : List O3} {K : List Int → Option PyData} : ∀ (Q pre : List O3) (D : List Int), P = pre ++ Q → D.length = O.length → forO (rangeL (pre.length : Int) ((pre.length : Int) + (Q.length : Int))) D (fun x634 (t633 : (List Int)) kc635 => (
      (atI P x634).bind fun y638 =>
      ((if decide ((0 : Int) ≤ y638.2.2) = true then (some (decide (y638.2.2 < (List.length O : Int)))) else some false).bind fun z644 : Bool =>
      if (!z644) = true then some true else (
      if (decide (y638.2.1 ≤ y638.1)) = true then some true else ((
      if (decide ((0 : Int) < x634)) = true then ((atI P (x634 - (1 : Int))).bind fun y653 =>
      some (decide (y638.1 < y653.2.1))) else some false).bind fun z654 : Bool =>
      some z654))).bind fun z655 : Bool =>
      if z655 = true then (
        some (PyData.tuple [PyData.str ("piece" : Str), PyData.int x634]))
      else (
        (atI O y638.2.2).bind fun y661 =>
        if (decide (y638.1 < y661.1)) = true then (
          some (PyData.tuple [PyData.str ("come" : Str), PyData.int x634]))
        else (
          (atI t633 y638.2.2).bind fun y668 =>
          (ixN (List.length t633) y638.2.2).bind fun n676 =>
          kc635 (List.set t633 n676 ((y668 + y638.2.1) - y638.1)))))) K = match scan O Q pre.length (pre.getLast?.map fun x => x.2.1) D with
      | .inl d => some d
      | .inr (_, D') => K D'
  | [], pre, D, _, _ => by rw [List.length_nil, rangeL_nil (by omega)]; rfl
  | x :: Q, pre, D, e, hD => by
    rw [List.length_cons, rangeL_cons' (by omega)]
    unfold forO scan
    dsimp only
    have hx : atI P (pre.length : Int) = some x := by
      rw [Z.atI_nat (by rw [e]; simp)]
      simp [e]
    have hb : (if (decide ((0 : Int) < (pre.length : Int))) = true then ((atI P ((pre.length : Int) - (1 : Int))).bind fun y653 =>
      some (decide (x.1 < y653.2.1))) else some false) = some (decide (∃ b0, (pre.getLast?.map fun x => x.2.1) = some b0 ∧ x.1 < b0)) := by
      rcases List.eq_nil_or_concat pre with rfl | ⟨q, y, hq⟩
      · rfl
      · rw [List.concat_eq_append] at hq
        subst hq
        have hl : (q ++ [y]).getLast? = some y := by simp
        have h2 : atI P (((q ++ [y]).length : Int) - (1 : Int)) = some y := by
          rw [show (((q ++ [y]).length : Int) - 1) = (q.length : Int) by simp]
          rw [Z.atI_nat (by rw [e]; simp)]
          simp [e]
        rw [hl, h2, decide_eq_true (by have : 0 < (q ++ [y]).length := by simp
                                       omega), ite_t, Option.bind_some]
        congr 1
        rw [decide_eq_decide]
        exact ⟨fun h => ⟨_, rfl, h⟩, fun ⟨_, e, h⟩ => by cases e; exact h⟩
    rw [hx, Option.bind_some, bad_test hb, Option.bind_some]
    refine (stp_eq (Ω := PyData) (k := pre.length) (K := fun D' => forO (rangeL ((pre.length : Int) + 1) ((pre.length : Int) + ((Q.length + 1 : Nat) : Int))) D' _ K) hD).trans ?_
    cases h : stp O pre.length (pre.getLast?.map fun x => x.2.1) D x with
    | inl d => rfl
    | inr D' =>
      have := stp_len h
      have ih := lloop (P := P) (K := K) Q (pre ++ [x]) D' (by rw [e]; simp) (by omega)
      have l1 : (pre ++ [x]).length = pre.length + 1 := by simp
      have l2 : (pre ++ [x]).getLast? = some x := by simp
      rw [l1, l2, show ((pre.length + 1 : Nat) : Int) + (Q.length : Int) = (pre.length : Int) + ((Q.length + 1 : Nat) : Int) by omega, show ((pre.length + 1 : Nat) : Int) = (pre.length : Int) + 1 by omega] at ih
      exact ih
theorem time_ok {D : List Int} (hD : D.length = O.length) : forO (enumL O) () (fun x404 (t403 : Unit) kc405 => (
        (atI D x404.1).bind fun y408 =>
        if (!decide (y408 = x404.2.2.1)) = true then (
          some (PyData.tuple [PyData.str ("time" : Str), PyData.int x404.1]))
        else (
          kc405 ()))) (fun t413 : Unit => (some PyData.none)) = some (timeR O D) := by
  rw [enumL_rng ((0, 0, 0) : O3), forO_mapL]
  refine (forO_find (fun k => decide (D.getD k.toNat 0 ≠ (nth O k).2.1)) (fun k => wd1 "time" k) _ fun k mk kc => ?_).trans ?_
  · have mk := mem_rng.1 mk
    dsimp only
    rw [at_getD 0 mk.1 (by omega), Option.bind_some, ← decide_not]; rfl
  · unfold timeR
    cases (rangeL 0 (O.length : Int)).find? fun k => decide (D.getD k.toNat 0 ≠ (nth O k).2.1) <;> rfl
theorem time_ok2 {D : List Int} (hD : D.length = O.length) : forO (rangeL 0 (O.length : Int)) () (fun x684 (t683 : Unit) kc685 => (
        (atI D x684).bind fun y688 =>
        (atI O x684).bind fun y691 =>
        if (!decide (y688 = y691.2.1)) = true then (
          some (PyData.tuple [PyData.str ("time" : Str), PyData.int x684]))
        else (
          kc685 ()))) (fun t695 : Unit => (some PyData.none)) = some (timeR O D) := by
  refine (forO_find (fun k => decide (D.getD k.toNat 0 ≠ (nth O k).2.1)) (fun k => wd1 "time" k) _ fun k mk kc => ?_).trans ?_
  · have mk := mem_rng.1 mk
    rw [at_getD 0 mk.1 (by omega), Option.bind_some, at_nth mk.1 mk.2, Option.bind_some, ← decide_not]; rfl
  · unfold timeR
    cases (rangeL 0 (O.length : Int)).find? fun k => decide (D.getD k.toNat 0 ≠ (nth O k).2.1) <;> rfl
theorem scan_len : ∀ {P : List O3} {k : Nat} {b : Option Int} {D : List Int} {b' : Option Int} {D' : List Int}, scan O P k b D = .inr (b', D') → D'.length = D.length
  | [], _, _, _, _, _, h => by unfold scan at h; cases h; rfl
  | x :: P, k, b, D, b', D', h => by
    unfold scan at h
    cases h2 : stp O k b D x with
    | inl d => rw [h2] at h; cases h
    | inr D2 =>
      rw [h2] at h
      have := scan_len (P := P) h
      have := stp_len h2
      omega
theorem map_const {α β : Type} (c : β) : ∀ L : List α, L.map (fun _ => c) = List.replicate L.length c
  | [] => rfl
  | _ :: L => by rw [List.map_cons, map_const c L]; rfl
theorem pp_ok (hO : O.length ≤ 9) (P : List O3) : m_pieces_fault O P = some (pfR O P) := by
  have hS : (1000000 : Nat) ≤ SZ := by decide
  unfold m_pieces_fault
  rw [compO_map (fun _ : O3 => (0 : Int)) () _ [] (by simp; omega) (fun _ _ _ => rfl), List.nil_append, map_const]
  dsimp only
  have e : enumL P = (enumL P).map fun p => (p.1 + ((0 : Nat) : Int), p.2) := by
    have : ((fun p : Int × O3 => (p.1 + ((0 : Nat) : Int), p.2))) = id := by funext p; show (p.1 + ((0 : Nat) : Int), p.2) = p; rw [show p.1 + ((0 : Nat) : Int) = p.1 by omega]
    rw [this, List.map_id]
  rw [e]
  refine (ploop (O := O) (K := fun D => forO (enumL O) () (fun x404 (t403 : Unit) kc405 => (
        (atI D x404.1).bind fun y408 =>
        if (!decide (y408 = x404.2.2.1)) = true then (
          some (PyData.tuple [PyData.str ("time" : Str), PyData.int x404.1]))
        else (
          kc405 ()))) (fun t413 : Unit => (some PyData.none))) P 0 none (List.replicate O.length 0) (by simp)).trans ?_
  unfold pfR
  cases h : scan O P 0 none (List.replicate O.length 0) with
  | inl d => rfl
  | inr bd =>
    obtain ⟨b, D⟩ := bd
    exact time_ok (by have := scan_len h; simpa using this)
theorem lp_ok (hO : O.length ≤ 9) {P : List O3} (hP : P.length ≤ 1000) : m__law_pieces_fault O P = some (pfR O P) := by
  have hS : (1000000 : Nat) ≤ SZ := by decide
  unfold m__law_pieces_fault
  rw [compO_map (fun _ : O3 => (0 : Int)) () _ [] (by simp; omega) (fun _ _ _ => rfl), List.nil_append, map_const]
  dsimp only
  rw [ck_pos (rgOk_s (by omega) (by omega) (by omega) (by omega))]
  have := lloop (O := O) (P := P) (K := fun D => ck (rgOk 0 (List.length O : Int)) (forO (rangeL 0 (List.length O : Int)) () (fun x684 (t683 : Unit) kc685 => (
        (atI D x684).bind fun y688 =>
        (atI O x684).bind fun y691 =>
        if (!decide (y688 = y691.2.1)) = true then (
          some (PyData.tuple [PyData.str ("time" : Str), PyData.int x684]))
        else (
          kc685 ()))) (fun t695 : Unit => (some PyData.none)))) P [] (List.replicate O.length 0) rfl (by simp)
  rw [show (([] : List O3).length : Int) = 0 from rfl, Int.zero_add] at this
  refine this.trans ?_
  unfold pfR
  show (match scan O P 0 none (List.replicate O.length 0) with
    | .inl d => some d
    | .inr (_, D') => _) = _
  cases h : scan O P 0 none (List.replicate O.length 0) with
  | inl d => rfl
  | inr bd =>
    obtain ⟨b, D⟩ := bd
    dsimp only
    rw [ck_pos (rgOk_s (by omega) (by omega) (by omega) (by omega))]
    exact time_ok2 (by have := scan_len h; simpa using this)
end
/-! ### ends -/
theorem compO_mapL {α β γ S Ω : Type} {g : α → γ} {b : γ → S → (Option β → S → Option Ω) → Option Ω} {k : List β → S → Option Ω} : ∀ (xs : List α) (s : S) (acc : List β), compO (xs.map g) s b acc k = compO xs s (fun x => b (g x)) acc k
  | [], _, _ => rfl
  | x :: xs, s, acc => by
    rw [List.map_cons]
    unfold compO
    congr 1
    funext o s'
    cases o with
    | none => exact compO_mapL xs s' acc
    | some y => simp only [compO_mapL xs s']
section
variable {O : List O3}
theorem scan_facts : ∀ {P : List O3} {k : Nat} {b : Option Int} {D : List Int} {b' : Option Int} {D' : List Int}, D.length = O.length → scan O P k b D = .inr (b', D') → (∀ x ∈ P, (0 ≤ x.2.2 ∧ x.2.2 < O.length) ∧ x.1 < x.2.1) ∧ (P.map fun x => x.2.1).Pairwise (· < ·) ∧ (∀ b0, b = some b0 → ∀ x ∈ P, b0 < x.2.1) ∧ ∀ j : Int, 0 ≤ j → j < O.length → (∀ x ∈ P, x.2.2 ≠ j) → D'.getD j.toNat 0 = D.getD j.toNat 0
  | [], _, _, _, _, _, hD, h => by
    unfold scan at h; cases h
    exact ⟨(fun x m => nomatch m), List.Pairwise.nil, (fun _ _ x m => nomatch m), fun _ _ _ _ => rfl⟩
  | x :: P, k, b, D, b', D', hD, h => by
    unfold scan at h
    cases h2 : stp O k b D x with
    | inl d => rw [h2] at h; cases h
    | inr D2 =>
      rw [h2] at h
      obtain ⟨q1, q2, q3, q4, q5⟩ := stp_some h2
      obtain ⟨f1, f2, f3, f4⟩ := scan_facts (P := P) (by have := stp_len h2; omega) h
      have f3 := f3 _ rfl
      refine ⟨fun y m => ?_, ?_, fun b0 e y m => ?_, fun j j0 j1 hj => ?_⟩
      · rcases List.mem_cons.1 m with rfl | m
        · exact ⟨q1, q2⟩
        · exact f1 y m
      · rw [List.map_cons, List.pairwise_cons]
        exact ⟨fun z mz => by
          obtain ⟨y, my, rfl⟩ := List.mem_map.1 mz
          exact f3 y my, f2⟩
      · have := q3 b0 e
        rcases List.mem_cons.1 m with rfl | m
        · omega
        · have := f3 y m; omega
      · rw [f4 j j0 j1 fun y m => hj y (List.mem_cons_of_mem _ m), q5, set_get q1.1 (by omega) j0, if_neg fun z => hj x (List.mem_cons_self ..) z.symm]
theorem asc_max : ∀ {L : List Int}, L.Pairwise (· < ·) → ∀ v, L.getLast? = some v → maxI L = some v := fun {L} p v h => by
  refine maxI_of (List.mem_of_getLast? h) fun y my => ?_
  rcases List.eq_nil_or_concat L with rfl | ⟨Q, x, hq⟩
  · cases my
  · rw [List.concat_eq_append] at hq
    subst hq
    simp at h
    subst h
    rw [List.pairwise_append] at p
    rcases List.mem_append.1 my with m | m
    · have := p.2.2 y m x (by simp); omega
    · simp at m; omega
def lastL (P : List O3) (k : Int) : List Int := P.filterMap fun x => if decide (x.2.2 = k) = true then some x.2.1 else none
theorem lastL_eq {k : Int} : ∀ P : List O3, lastL P k = (P.filter fun x => decide (x.2.2 = k)).map fun x => x.2.1
  | [] => rfl
  | x :: P => by
    have ih := lastL_eq (k := k) P
    unfold lastL at ih ⊢
    rw [List.filterMap_cons, List.filter_cons]
    by_cases c : x.2.2 = k
    · rw [if_pos (decide_eq_true c), if_pos (decide_eq_true c), List.map_cons, ih]
    · rw [if_neg (fun z => c (of_decide_eq_true z)), if_neg (fun z => c (of_decide_eq_true z)), ih]
theorem lastL_last {P : List O3} {k : Int} : (lastL P k).getLast? = lastE P k := by
  rw [lastL_eq]
  unfold lastE
  rw [List.getLast?_map]
theorem lastL_asc {P : List O3} {k : Int} (h : (P.map fun x => x.2.1).Pairwise (· < ·)) : (lastL P k).Pairwise (· < ·) := by
  rw [lastL_eq]
  exact h.sublist (List.filter_sublist.map _)
def lateL (O : List O3) (P : List O3) : List Int := (rangeL 0 (O.length : Int)).map fun k => eV P k - (nth O k).2.2
def lateV (O P : List O3) : Int := (maxI (lateL O P)).getD 0
structure Good (O P : List O3) : Prop where
  val : ∀ x ∈ P, (0 ≤ x.2.2 ∧ x.2.2 < O.length) ∧ x.1 < x.2.1
  asc : (P.map fun x => x.2.1).Pairwise (· < ·)
  all : ∀ k : Int, 0 ≤ k → k < O.length → ∃ e, lastE P k = some e
theorem good_of (o : OOk O) {P : List O3} (h : pfR O P = .none) : Good O P := by
  unfold pfR at h
  cases h2 : scan O P 0 none (List.replicate O.length 0) with
  | inl d =>
    rw [h2] at h
    dsimp only at h
    exfalso
    have : ∀ (P : List O3) (k : Nat) (b : Option Int) (D : List Int) (d : PyData), scan O P k b D = .inl d → d ≠ .none := by
      intro P
      induction P with
      | nil => intro k b D d e; unfold scan at e; cases e
      | cons x P ih =>
        intro k b D d e
        unfold scan at e
        cases h3 : stp O k b D x with
        | inl d2 =>
          rw [h3] at e; cases e
          unfold stp at h3
          split at h3
          · cases h3; exact fun z => by cases z
          · split at h3
            · cases h3; exact fun z => by cases z
            · cases h3
        | inr D2 => rw [h3] at e; exact ih _ _ _ _ e
    exact this _ _ _ _ _ h2 h
  | inr bd =>
    obtain ⟨b, D⟩ := bd
    rw [h2] at h
    dsimp only at h
    obtain ⟨f1, f2, _, f4⟩ := scan_facts (by simp) h2
    refine ⟨f1, f2, fun k k0 k1 => ?_⟩
    have ht : D.getD k.toNat 0 = (nth O k).2.1 := by
      unfold timeR at h
      cases h3 : (rangeL 0 (O.length : Int)).find? fun k => decide (D.getD k.toNat 0 ≠ (nth O k).2.1) with
      | some y => rw [h3] at h; cases h
      | none =>
        have := List.find?_eq_none.1 h3 k (mem_rng.2 ⟨k0, k1⟩)
        exact Classical.byContradiction fun z => this (decide_eq_true z)
    cases h3 : lastE P k with
    | some e => exact ⟨e, rfl⟩
    | none =>
      exfalso
      have nx : ∀ x ∈ P, x.2.2 ≠ k := fun x mx z => by
        unfold lastE at h3
        rw [Option.map_eq_none_iff, List.getLast?_eq_none_iff] at h3
        have : x ∈ P.filter fun x => decide (x.2.2 = k) := List.mem_filter.2 ⟨mx, decide_eq_true z⟩
        rw [h3] at this; cases this
      have := f4 k k0 k1 nx
      rw [ht, List.getD_eq_getElem?_getD, List.getElem?_replicate] at this
      have b := nthb o k0 k1
      split at this <;> simp at this <;> omega
theorem late_ne (ne : O ≠ []) (P : List O3) : lateL O P ≠ [] := fun z => by
  have : (lateL O P).length = 0 := by rw [z]; rfl
  unfold lateL at this
  rw [List.length_map, rng_len] at this
  have := List.length_pos_iff.2 ne
  omega
theorem late_some (ne : O ≠ []) (P : List O3) : maxI (lateL O P) = some (lateV O P) := by
  obtain ⟨v, e, _⟩ := maxI_some (late_ne ne P)
  unfold lateV
  rw [e]; rfl
/-- late_by, of ends that are all told -/
theorem late_by_ok (hO : O.length ≤ 9) (ne : O ≠ []) {E : List (Option Int)} {P : List O3} (hE : E.length = O.length) (h : ∀ k : Int, 0 ≤ k → k < O.length → E.getD k.toNat none = some (eV P k)) : m_late_by O E = some (lateV O P) := by
  have hS : (1000000 : Nat) ≤ SZ := by decide
  unfold m_late_by
  rw [enumL_rng ((0, 0, 0) : O3), compO_mapL]
  rw [compO_map (fun k : Int => eV P k - (nth O k).2.2) () _ [] (by rw [rng_len]; simp; omega) (fun k mk kc => by
    have mk := mem_rng.1 mk
    dsimp only
    rw [at_getD none mk.1 (by omega), Option.bind_some, h k mk.1 mk.2, Option.bind_some]; rfl), List.nil_append]
  show (maxI (lateL O P)).bind _ = _
  rw [late_some ne]; rfl
theorem ends_ok (hO : O.length ≤ 9) {P : List O3} (g : Good O P) : ∃ E : List (Option Int), m_ends_of O P = some E ∧ E.length = O.length ∧ ∀ k : Int, 0 ≤ k → k < O.length → E.getD k.toNat none = some (eV P k) := by
  have hS : (1000000 : Nat) ≤ SZ := by decide
  unfold m_ends_of
  rw [compO_map (fun x : O3 => some x.1) () _ [] (by simp; omega) (fun _ _ _ => rfl), List.nil_append]
  dsimp only
  obtain ⟨E, ⟨hE, hv⟩, run⟩ := forO_run (Ω := List (Option Int)) (fun i (E : List (Option Int)) => E.length = O.length ∧ ∀ k e, lastE (P.take i) k = some e → 0 ≤ k → E.getD k.toNat none = some e) (b := fun x428 (t427 : (List (Option Int))) kc429 => (
      (ixN (List.length t427) x428.2.2).bind fun n436 =>
      kc429 (List.set t427 n436 (some x428.2.1)))) P 0 (O.map fun x => some x.1) ⟨by simp, fun k e h => by cases h⟩ (fun i E x hx hE => by
    obtain ⟨hl, hv⟩ := hE
    rw [Nat.zero_add] at hv ⊢
    have mx := List.mem_of_getElem? hx
    have v := (g.val x mx).1
    refine ⟨E.set x.2.2.toNat (some x.2.1), ⟨by rw [List.length_set]; exact hl, fun k e h k0 => ?_⟩, fun kc => by rw [ixN_in v.1 (by omega), Option.bind_some]⟩
    rw [List.take_add_one, hx] at h
    rw [show (some x : Option O3).toList = [x] from rfl, lastE_snoc] at h
    rw [set_get v.1 (by omega) k0]
    by_cases c : x.2.2 = k
    · rw [if_pos c] at h; rw [if_pos c.symm]; exact h
    · rw [if_neg c] at h; rw [if_neg fun z => c z.symm]; exact hv k e h k0)
  rw [Nat.zero_add, List.take_length] at hv
  refine ⟨E, run _, hE, fun k k0 k1 => ?_⟩
  obtain ⟨e, he⟩ := g.all k k0 k1
  rw [hv k e he k0]
  unfold eV
  rw [he]; rfl
end
/-! ### what a set holds; faults -/
section
variable {O : List O3}
theorem eqv_oi {a : Int} {l : Option Int} : PyData.eqv (eI.enc a) ((eO eI nnI).enc l) = decide (l = some a) := by
  cases l with
  | none =>
    show PyData.eqv (.int a) .none = _
    unfold PyData.eqv; rfl
  | some b =>
    show PyData.eqv (.int a) (.int b) = _
    unfold PyData.eqv
    by_cases c : a = b
    · subst c; simp
    · rw [decide_eq_false (by intro z; cases z; exact c rfl)]; simpa using c
theorem sh_int {a : Int} : SeqAt.shaped (eI.enc a) = true := by
  show SeqAt.shaped (.int a) = true
  simp [SeqAt.shaped, PyData.canLay0, PyData.depth]
theorem sh_oi {l : Option Int} : SeqAt.shaped ((eO eI nnI).enc l) = true := by
  cases l with
  | none => exact shaped_none
  | some a => exact sh_int
def Vd (O : List O3) (M : List Int) : Prop := ∀ k ∈ M, 0 ≤ k ∧ k < (O.length : Int)
instance (O : List O3) (M : List Int) : Decidable (Vd O M) := inferInstanceAs (Decidable (∀ k ∈ M, 0 ≤ k ∧ k < (O.length : Int)))
theorem map_run {Ω β : Type} (f : O3 → β) {M : List Int} (v : Vd O M) (hl : M.length ≤ 1000) (K : List β → Unit → Option Ω) : compO M () (fun x (_ : Unit) kc => ((atI O x).bind fun y => kc (some (f y)) ())) [] K = K (M.map fun k => f (nth O k)) () := by
  have hS : (1000000 : Nat) ≤ SZ := by decide
  refine (compO_map (fun k => f (nth O k)) () _ [] (by simp; omega) fun x mx kc => ?_).trans (by rw [List.nil_append])
  rw [at_nth (v x mx).1 (v x mx).2, Option.bind_some]
def heldV (O : List O3) (M : List Int) : Int := (minI (M.map fun k => (nth O k).1)).getD 0 + (M.map fun k => (nth O k).2.1).sum - (maxI (M.map fun k => (nth O k).2.2)).getD 0
theorem held_ok {M : List Int} (v : Vd O M) (hl : M.length ≤ 1000) (ne : M ≠ []) : m_held_by O M = some (heldV O M) := by
  obtain ⟨a, ea, _⟩ := minI_some (l := M.map fun k => (nth O k).1) (by simpa using ne)
  obtain ⟨b, eb, _⟩ := maxI_some (l := M.map fun k => (nth O k).2.2) (by simpa using ne)
  unfold m_held_by heldV
  rw [map_run (fun y => y.1) v hl, ea, Option.bind_some]
  dsimp only
  rw [map_run (fun y => y.2.1) v hl, map_run (fun y => y.2.2) v hl, eb]
  rfl
theorem lheld_eq : @m__law_held = @m_held_by := rfl
def MOk (O : List O3) (M : List Int) : Prop := M ≠ [] ∧ M.Pairwise (· < ·) ∧ Vd O M
instance (O : List O3) (M : List Int) : Decidable (MOk O M) := inferInstanceAs (Decidable (_ ∧ _ ∧ _))
def heldR (O : List O3) (l : Option Int) (M : List Int) : PyData := if l.getD 0 ≤ heldV O M then .none else wd "held"
def flR (O : List O3) (l : Option Int) (P : List O3) (M : List Int) : PyData :=
  if isNone (pfR O P) = true then (if l = some (lateV O P) then (if MOk O M then heldR O l M else wd "members") else wd "lateness") else .tuple [.str "pieces", pfR O P]
theorem pfR_sh (P : List O3) : pfR O P = .none ∨ ∃ s k, PyData.strOk s = true ∧ pfR O P = wd1 s k := by
  have sc : ∀ (P : List O3) (k : Nat) (b : Option Int) (D : List Int) (d : PyData), scan O P k b D = .inl d → ∃ s k, PyData.strOk s = true ∧ d = wd1 s k := by
    intro P
    induction P with
    | nil => intro k b D d e; unfold scan at e; cases e
    | cons x P ih =>
      intro k b D d e
      unfold scan at e
      cases h3 : stp O k b D x with
      | inl d2 =>
        rw [h3] at e; cases e
        unfold stp at h3
        split at h3
        · cases h3; exact ⟨_, _, by decide +kernel, rfl⟩
        · split at h3
          · cases h3; exact ⟨_, _, by decide +kernel, rfl⟩
          · cases h3
      | inr D2 => rw [h3] at e; exact ih _ _ _ _ e
  unfold pfR
  cases h : scan O P 0 none (List.replicate O.length 0) with
  | inl d => exact .inr (sc _ _ _ _ _ h)
  | inr bd =>
    obtain ⟨b, D⟩ := bd
    dsimp only
    unfold timeR
    cases (rangeL 0 (O.length : Int)).find? fun k => decide (D.getD k.toNat 0 ≠ (nth O k).2.1) with
    | none => exact .inl rfl
    | some y => exact .inr ⟨_, _, by decide +kernel, rfl⟩
theorem flR_sh {l : Option Int} {P : List O3} {M : List Int} : SeqAt.shaped (flR O l P M) = true := by
  unfold flR heldR
  split
  · split
    · split
      · split
        · exact shaped_none
        · exact shaped_wd (by decide +kernel)
      · exact shaped_wd (by decide +kernel)
    · exact shaped_wd (by decide +kernel)
  · rename_i h
    rcases pfR_sh (O := O) P with e | ⟨s, k, hs, e⟩
    · rw [e] at h; exact absurd rfl h
    · rw [e]
      have h2 : PyData.strOk ("pieces" : Str) = true := by decide +kernel
      simp [SeqAt.shaped, wd1, PyData.canLay0, PyData.canLayAll0, PyData.depth, PyData.depthAll, hs, h2]
theorem fm_filter {α : Type} (p : α → Bool) : ∀ L : List α, (L.filterMap fun c => if p c = true then some c else none) = L.filter p
  | [] => rfl
  | a :: L => by
    rw [List.filterMap_cons, List.filter_cons]
    cases p a with
    | true => simp [fm_filter p L]
    | false => simp [fm_filter p L]
theorem isE {M : List Int} : (!(!List.isEmpty M)) = decide (M = []) := by cases M <;> rfl
theorem pmem {M : List Int} {bs : List Bool} (hb : bs.all id = decide (M.Pairwise (· < ·))) (hM : M.length ≤ 1000) : (if (!(!List.isEmpty M)) = true then some true else (
          if (!(List.all bs id)) = true then some true else (compO M () (fun x489 (t488 : Unit) kc498 => (
            (if decide ((0 : Int) ≤ x489) = true then (some (decide (x489 < (List.length O : Int)))) else some false).bind fun z494 : Bool =>
            kc498 (some z494) ())) [] fun (ys496 : List Bool) (t497 : Unit) => (
            some (!(List.all ys496 id)))))) = some (!decide (MOk O M)) := by
  have hS : (1000000 : Nat) ≤ SZ := by decide
  rw [isE, hb]
  by_cases c0 : M = []
  · rw [decide_eq_true c0, ite_t, decide_eq_false (fun z : MOk O M => z.1 c0)]; rfl
  · rw [decide_eq_false c0, ite_f]
    by_cases c1 : M.Pairwise (· < ·)
    · rw [decide_eq_true c1, ite_nt, compO_map (fun x => decide (0 ≤ x ∧ x < (O.length : Int))) () _ [] (by simp; omega) (fun x _ kc => by rw [rng_test, Option.bind_some]), List.nil_append]
      congr 2
      rw [Bool.eq_iff_iff, List.all_eq_true, decide_eq_true_eq]
      constructor
      · intro h
        exact ⟨c0, c1, fun x mx => of_decide_eq_true (h _ (List.mem_map.2 ⟨x, mx, rfl⟩))⟩
      · rintro h b mb
        obtain ⟨x, mx, rfl⟩ := List.mem_map.1 mb
        exact decide_eq_true (h.2.2 x mx)
    · rw [decide_eq_false c1, ite_nf, decide_eq_false (fun z : MOk O M => c1 z.2.1)]; rfl
theorem lmem {M : List Int} (hM : M.length ≤ 63) : (if (decide ((List.length M : Int) = (0 : Int))) = true then some true else (ck (decide (List.length M < 64)) (
            if (!decide (M = (usort M))) = true then some true else (compO M () (fun x807 (t806 : Unit) kc816 => (
              (if decide ((0 : Int) ≤ x807) = true then (some (decide (x807 < (List.length O : Int)))) else some false).bind fun z811 : Bool =>
              if (!z811) = true then (kc816 (some x807) ()) else kc816 none ())) [] fun (ys814 : List Int) (t815 : Unit) => (
              some (decide ((0 : Int) < (List.length ys814 : Int)))))))) = some (!decide (MOk O M)) := by
  have hS : (1000000 : Nat) ≤ SZ := by decide
  by_cases c0 : M = []
  · subst c0
    rw [decide_eq_true (by rfl), ite_t, decide_eq_false (fun z : MOk O [] => z.1 rfl)]; rfl
  · have lp := List.length_pos_iff.2 c0
    rw [decide_eq_false (by omega), ite_f, ck_pos (decide_eq_true (by omega))]
    rw [show decide (M = usort M) = decide (M.Pairwise (· < ·)) by rw [decide_eq_decide]; exact usort_eq_iff]
    by_cases c1 : M.Pairwise (· < ·)
    · rw [decide_eq_true c1, ite_nt, compO_filterMap (fun x => if (!decide (0 ≤ x ∧ x < (O.length : Int))) = true then some x else none) () _ [] (by simp; omega) (fun x _ kc => by rw [rng_test, Option.bind_some]; split <;> rfl), List.nil_append, fm_filter]
      congr 1
      by_cases c3 : Vd O M
      · rw [decide_eq_true (show MOk O M from ⟨c0, c1, c3⟩)]
        have : M.filter (fun x => !decide (0 ≤ x ∧ x < (O.length : Int))) = [] := List.filter_eq_nil_iff.2 fun x mx => by rw [decide_eq_true (c3 x mx)]; decide
        rw [this]; rfl
      · rw [decide_eq_false (fun z : MOk O M => c3 z.2.2)]
        obtain ⟨x, hx⟩ := Classical.not_forall.1 c3
        obtain ⟨mx, nx⟩ := Classical.not_imp.1 hx
        have := List.length_pos_of_mem (List.mem_filter.2 ⟨mx, by rw [decide_eq_false nx]; rfl⟩ : x ∈ M.filter fun x => !decide (0 ≤ x ∧ x < (O.length : Int)))
        rw [decide_eq_true (by omega)]; rfl
    · rw [decide_eq_false c1, ite_nf, decide_eq_false (fun z : MOk O M => c1 z.2.1)]; rfl
theorem tail_ok {l : Option Int} {P : List O3} {M : List Int} (hM : M.length ≤ 1000) (hl : l = some (lateV O P)) (hm : MOk O M) : (((m_held_by O M).bind fun r504 =>
            l.bind fun y506 =>
            if (decide (y506 ≤ r504)) = true then (some PyData.none) else (some (PyData.tuple [PyData.str ("held" : Str)]))).bind fun z509 : PyData =>
            some z509) = some (heldR O l M) := by
  rw [held_ok hm.2.2 hM hm.1, Option.bind_some, hl, Option.bind_some, ite_d]
  unfold heldR
  rw [Option.getD_some]
  by_cases c : lateV O P ≤ heldV O M
  · rw [if_pos c, if_pos c]; rfl
  · rw [if_neg c, if_neg c]; rfl
theorem isNo {d : PyData} : (!isNone (eD.enc d)) = !isNone d := rfl
theorem pf_ok (o : OOk O) (ne : O ≠ []) (l : Option Int) {P : List O3} {M : List Int} (hM : M.length ≤ 63) : m_days_fault O (l, P, M) = some (flR O l P M) := by
  have hO := o.len
  unfold m_days_fault flR
  dsimp only
  have he : (!(!List.isEmpty O)) = false := by cases O with
    | nil => exact absurd rfl ne
    | cons _ _ => rfl
  rw [he, ite_f, pp_ok hO, Option.bind_some, isNo]
  cases hp : isNone (pfR O P) with
  | false => rfl
  | true =>
    rw [ite_nt, if_pos rfl]
    have hp' : pfR O P = .none := by
      cases h : pfR O P with
      | none => rfl
      | _ => rw [h] at hp; cases hp
    have g := good_of o hp'
    obtain ⟨E, eE, lE, vE⟩ := ends_ok hO g
    rw [eE, Option.bind_some, late_by_ok hO ne lE vE, Option.bind_some, sh_int, sh_oi, eqv_oi]
    show ck true _ = _
    rw [ck_pos rfl, ite_nd]
    by_cases c : l = some (lateV O P)
    · rw [if_pos c, if_pos c, ck_pos (rgOk_s (by omega) (by omega) (by omega) (by omega))]
      obtain ⟨bs, hb, run⟩ := rise_ok (Ω := PyData) (es := M) (by omega)
      refine (run _).trans ?_
      refine (congrArg (fun o => Option.bind o _) (pmem (O := O) hb (by omega))).trans ?_
      rw [Option.bind_some, ite_nd]
      by_cases c2 : MOk O M
      · rw [if_pos c2, if_pos c2]
        exact tail_ok (by omega) c c2
      · rw [if_neg c2, if_neg c2]; rfl
    · rw [if_neg c, if_neg c]; rfl
theorem lf_ok (o : OOk O) (ne : O ≠ []) (l : Option Int) {P : List O3} {M : List Int} (hM : M.length ≤ 63) (hP : P.length ≤ 1000) : m__law_fault O (l, P, M) = some (flR O l P M) := by
  have hS : (1000000 : Nat) ≤ SZ := by decide
  have hO := o.len
  unfold m__law_fault flR
  dsimp only
  have lp := List.length_pos_iff.2 ne
  rw [decide_eq_false (by omega), ite_f, lp_ok hO hP, Option.bind_some, isNo]
  cases hp : isNone (pfR O P) with
  | false => rfl
  | true =>
    rw [ite_nt, if_pos rfl]
    have hp' : pfR O P = .none := by
      cases h : pfR O P with
      | none => rfl
      | _ => rw [h] at hp; cases hp
    have g := good_of o hp'
    rw [ck_pos (rgOk_s (by omega) (by omega) (by omega) (by omega)), compO_map (fun k : Int => eV P k) () _ [] (by rw [rng_len]; simp; omega) (fun k mk kc => by
      have mk := mem_rng.1 mk
      rw [compO_filterMap (fun x : O3 => if decide (x.2.2 = k) = true then some x.2.1 else none) () _ [] (by simp; omega) (fun x _ kc => by split <;> rfl), List.nil_append]
      obtain ⟨e, he⟩ := g.all k mk.1 mk.2
      have := asc_max (lastL_asc (k := k) g.asc) e (by rw [lastL_last]; exact he)
      show (maxI (lastL P k)).bind _ = _
      rw [this, Option.bind_some]
      unfold eV
      rw [he]; rfl), List.nil_append]
    rw [ck_pos (rgOk_s (by omega) (by omega) (by omega) (by omega)), compO_map (fun k : Int => eV P k - (nth O k).2.2) () _ [] (by rw [rng_len]; simp; omega) (fun k mk kc => by
      have mk := mem_rng.1 mk
      rw [at_getD 0 mk.1 (by rw [List.length_map, rng_len]; omega), Option.bind_some, at_nth mk.1 mk.2, Option.bind_some]
      have : ((rangeL 0 (O.length : Int)).map fun k => eV P k).getD k.toNat 0 = eV P k := by
        obtain ⟨n, rfl⟩ := Int.eq_ofNat_of_zero_le mk.1
        rw [Int.toNat_natCast, rangeL_nat, List.map_map, List.getD_eq_getElem?_getD, List.getElem?_map, List.getElem?_range (by omega)]; rfl
      rw [this]), List.nil_append]
    show (maxI (lateL O P)).bind _ = _
    rw [late_some ne, Option.bind_some, sh_int, sh_oi, eqv_oi]
    show ck true _ = _
    rw [ck_pos rfl, ite_nd]
    by_cases c : l = some (lateV O P)
    · rw [if_pos c, if_pos c]
      refine (congrArg (fun o => Option.bind o _) (lmem (O := O) hM)).trans ?_
      rw [Option.bind_some, ite_nd]
      by_cases c2 : MOk O M
      · rw [if_pos c2, if_pos c2, lheld_eq]
        exact tail_ok (by omega) c c2
      · rw [if_neg c2, if_neg c2]; rfl
    · rw [if_neg c, if_neg c]; rfl
end
/-! ### the critical set -/
section
variable {O : List O3}
instance {b : Option (Int × List Int)} {h : Int} : Decidable (∀ v, b = some v → v.1 < h) := match b with
  | none => isTrue fun _ e => by cases e
  | some v => if q : v.1 < h then isTrue fun _ e => by cases e; exact q else isFalse fun z => q (z v rfl)
def updC (O : List O3) (c : Int) (b : Option (Int × List Int)) (d : Int) : Option (Int × List Int) :=
  if Cs O c d ≠ [] ∧ (∀ v, b = some v → v.1 < heldV O (Cs O c d)) then some (heldV O (Cs O c d), Cs O c d) else b
theorem Cs_vd {c d : Int} : Vd O (Cs O c d) := fun k m => (mem_Cs.1 m).1
theorem Cs_len (hO : O.length ≤ 9) {c d : Int} : (Cs O c d).length ≤ 9 := by
  have : (Cs O c d).length ≤ (rangeL 0 (O.length : Int)).length := List.length_filter_le ..
  rw [rng_len] at this; omega
theorem Cs_run {Ω : Type} (hO : O.length ≤ 9) {c d : Int} (K : List Int → Unit → Option Ω) : compO (enumL O) () (fun x281 (t280 : Unit) kc290 => (
            (if (decide (c ≤ x281.2.1)) = true then (some (decide (x281.2.2.2 ≤ d))) else some false).bind fun z285 : Bool =>
            if z285 = true then (kc290 (some x281.1) ()) else kc290 none ())) [] K = K (Cs O c d) () := by
  have hS : (1000000 : Nat) ≤ SZ := by decide
  rw [enumL_rng ((0, 0, 0) : O3), compO_mapL]
  rw [compO_filterMap (fun k => if decide (c ≤ (nth O k).1 ∧ (nth O k).2.2 ≤ d) = true then some k else none) () _ [] (by rw [rng_len]; simp; omega) (fun k _ kc => by
    show Option.bind (if (decide (c ≤ (nth O k).1)) = true then (some (decide ((nth O k).2.2 ≤ d))) else some false) _ = _
    by_cases c1 : c ≤ (nth O k).1
    · rw [decide_eq_true c1, ite_t, Option.bind_some, ite_d]
      by_cases c2 : (nth O k).2.2 ≤ d
      · rw [if_pos c2, if_pos (decide_eq_true ⟨c1, c2⟩)]
      · rw [if_neg c2, if_neg (fun z => c2 (of_decide_eq_true z).2)]
    · rw [decide_eq_false c1, ite_f, Option.bind_some, ite_f, if_neg (fun z => c1 (of_decide_eq_true z).1)]), List.nil_append, fm_filter]
  rfl
theorem updC_run {Ω : Type} (hO : O.length ≤ 9) {c d : Int} {b : Option (Int × List Int)} {K : Option (Int × List Int) → Option Ω} : ((if (!List.isEmpty (Cs O c d)) = true then ((
            if (isNone ((eO (eT2 eI (eL eI)) nnT2).enc b)) = true then some true else ((m_held_by O (Cs O c d)).bind fun r304 =>
            b.bind fun y306 =>
            some (decide (y306.1 < r304)))).bind fun z307 : Bool =>
            some z307) else some false).bind fun z308 : Bool =>
            if z308 = true then (
              (m_held_by O (Cs O c d)).bind fun r314 =>
              K (some (r314, Cs O c d)))
            else (
              K b)) = K (updC O c b d) := by
  have hl := Cs_len hO (c := c) (d := d)
  by_cases e : Cs O c d = []
  · have hu : updC O c b d = b := if_neg fun z => z.1 e
    rw [hu, e]; rfl
  · have he : (!List.isEmpty (Cs O c d)) = true := by
      cases h : Cs O c d with
      | nil => exact absurd h e
      | cons _ _ => rfl
    have hh := held_ok Cs_vd (by omega) e
    rw [he, ite_t, hh]
    cases b with
    | none =>
      have hu : updC O c none d = some (heldV O (Cs O c d), Cs O c d) := if_pos ⟨e, fun v z => by cases z⟩
      rw [hu]; rfl
    | some v =>
      show Option.bind (Option.bind (if false = true then _ else _) _) _ = _
      rw [ite_f, Option.bind_some, Option.bind_some, Option.bind_some, Option.bind_some, ite_d]
      by_cases c1 : v.1 < heldV O (Cs O c d)
      · have hu : updC O c (some v) d = some (heldV O (Cs O c d), Cs O c d) := if_pos ⟨e, fun w z => by cases z; exact c1⟩
        rw [if_pos c1, hu, Option.bind_some]
      · have hu : updC O c (some v) d = some v := if_neg fun z => c1 (z.2 v rfl)
        rw [if_neg c1, hu]
def BI (O : List O3) (b : Option (Int × List Int)) : Prop := ∀ v, b = some v → MOk O v.2 ∧ v.1 = heldV O v.2
def Cov (O : List O3) (c d : Int) (b : Option (Int × List Int)) : Prop := Cs O c d ≠ [] → ∃ v, b = some v ∧ heldV O (Cs O c d) ≤ v.1
theorem updC_BI {c d : Int} {b : Option (Int × List Int)} (h : BI O b) : BI O (updC O c b d) := by
  unfold updC
  split
  · rename_i z
    intro v e
    cases e
    exact ⟨⟨z.1, Cs_asc, Cs_vd⟩, rfl⟩
  · exact h
theorem updC_self {c d : Int} {b : Option (Int × List Int)} : Cov O c d (updC O c b d) := fun ne => by
  unfold updC
  by_cases z : ∀ v, b = some v → v.1 < heldV O (Cs O c d)
  · rw [if_pos ⟨ne, z⟩]; exact ⟨_, rfl, Int.le_refl _⟩
  · rw [if_neg (fun y => z y.2)]
    obtain ⟨v, hv⟩ := Classical.not_forall.1 z
    obtain ⟨e, q⟩ := Classical.not_imp.1 hv
    exact ⟨v, e, by omega⟩
theorem updC_pres {c d c' d' : Int} {b : Option (Int × List Int)} (h : Cov O c' d' b) : Cov O c' d' (updC O c b d) := fun ne => by
  obtain ⟨v, e, q⟩ := h ne
  unfold updC
  split
  · rename_i z
    exact ⟨_, rfl, by have := z.2 v e; dsimp only; omega⟩
  · exact ⟨v, e, q⟩
theorem inner_cov {c : Int} : ∀ (ds : List Int) (b : Option (Int × List Int)), BI O b → BI O (ds.foldl (updC O c) b) ∧ (∀ d ∈ ds, Cov O c d (ds.foldl (updC O c) b)) ∧ ∀ c' d', Cov O c' d' b → Cov O c' d' (ds.foldl (updC O c) b)
  | [], b, h => ⟨h, (fun _ m => nomatch m), fun _ _ h => h⟩
  | d :: ds, b, h => by
    obtain ⟨h1, h2, h3⟩ := inner_cov (c := c) ds (updC O c b d) (updC_BI h)
    rw [List.foldl_cons]
    refine ⟨h1, fun d' m => ?_, fun c' d' q => h3 _ _ (updC_pres q)⟩
    rcases List.mem_cons.1 m with rfl | m
    · exact h3 _ _ updC_self
    · exact h2 d' m
theorem outer_cov {ds : List Int} : ∀ (cs : List Int) (b : Option (Int × List Int)), BI O b → BI O (cs.foldl (fun b c => ds.foldl (updC O c) b) b) ∧ (∀ c ∈ cs, ∀ d ∈ ds, Cov O c d (cs.foldl (fun b c => ds.foldl (updC O c) b) b)) ∧ ∀ c' d', Cov O c' d' b → Cov O c' d' (cs.foldl (fun b c => ds.foldl (updC O c) b) b)
  | [], b, h => ⟨h, (fun _ m => nomatch m), fun _ _ h => h⟩
  | c :: cs, b, h => by
    obtain ⟨i1, i2, i3⟩ := inner_cov (c := c) ds b h
    obtain ⟨h1, h2, h3⟩ := outer_cov cs (ds.foldl (updC O c) b) i1
    rw [List.foldl_cons]
    refine ⟨h1, fun c' m d md => ?_, fun c' d' q => h3 _ _ (i3 _ _ q)⟩
    rcases List.mem_cons.1 m with rfl | m
    · exact h3 _ _ (i2 d md)
    · exact h2 c' m d md
theorem crit_ok (hO : O.length ≤ 9) (ne : O ≠ []) : ∃ M, m_critical O = some M ∧ MOk O M ∧ M.length ≤ 9 ∧ ∀ c ∈ O.map (fun x => x.1), ∀ d ∈ O.map (fun x => x.2.2), Cs O c d ≠ [] → heldV O (Cs O c d) ≤ heldV O M := by
  have hS : (1000000 : Nat) ≤ SZ := by decide
  unfold m_critical
  dsimp only
  rw [compO_map (fun x : O3 => x.1) () _ [] (by simp; omega) (fun _ _ _ => rfl), List.nil_append, ck_pos (decide_eq_true (by simp; omega))]
  have run : ∀ K : Option (Int × List Int) → Option (List Int), forO (usort (O.map fun x => x.1)) none (fun x263 (t262 : (Option (Int × (List Int)))) kc264 => (
      compO O () (fun x268 (t267 : Unit) kc273 => (
        kc273 (some x268.2.2) ())) [] fun (ys271 : List Int) (t272 : Unit) => (
        ck (decide (List.length ys271 < 64)) (
        forO (usort ys271) t262 (fun x276 (t275 : (Option (Int × (List Int)))) kc277 => (
          compO (enumL O) () (fun x281 (t280 : Unit) kc290 => (
            (if (decide (x263 ≤ x281.2.1)) = true then (some (decide (x281.2.2.2 ≤ x276))) else some false).bind fun z285 : Bool =>
            if z285 = true then (kc290 (some x281.1) ()) else kc290 none ())) [] fun (ys288 : List Int) (t289 : Unit) => (
            (if (!List.isEmpty ys288) = true then ((
            if (isNone ((eO (eT2 eI (eL eI)) nnT2).enc t275)) = true then some true else ((m_held_by O ys288).bind fun r304 =>
            t275.bind fun y306 =>
            some (decide (y306.1 < r304)))).bind fun z307 : Bool =>
            some z307) else some false).bind fun z308 : Bool =>
            if z308 = true then (
              (m_held_by O ys288).bind fun r314 =>
              kc277 (some (r314, ys288)))
            else (
              kc277 t275)))) kc264)))) K = K ((usort (O.map fun x => x.1)).foldl (fun b c => (usort (O.map fun x => x.2.2)).foldl (updC O c) b) none) := fun K => by
    refine forO_fold (fun b c => (usort (O.map fun x => x.2.2)).foldl (updC O c) b) _ _ fun c _ b kc => ?_
    rw [compO_map (fun x : O3 => x.2.2) () _ [] (by simp; omega) (fun _ _ _ => rfl), List.nil_append, ck_pos (decide_eq_true (by simp; omega))]
    refine forO_fold (updC O c) _ _ fun d _ b kc => ?_
    rw [Cs_run hO]
    exact updC_run hO
  refine Exists.imp (fun M h => ?_) (?_ : ∃ M, (((usort (O.map fun x => x.1)).foldl (fun b c => (usort (O.map fun x => x.2.2)).foldl (updC O c) b) none).bind fun y325 => some y325.2) = some M ∧ MOk O M ∧ M.length ≤ 9 ∧ ∀ c ∈ O.map (fun x => x.1), ∀ d ∈ O.map (fun x => x.2.2), Cs O c d ≠ [] → heldV O (Cs O c d) ≤ heldV O M)
  · exact ⟨(run _).trans h.1, h.2⟩
  · obtain ⟨h1, h2, _⟩ := outer_cov (O := O) (ds := usort (O.map fun x => x.2.2)) (usort (O.map fun x => x.1)) none (fun v e => by cases e)
    generalize hB : (usort (O.map fun x => x.1)).foldl (fun b c => (usort (O.map fun x => x.2.2)).foldl (updC O c) b) none = B at h1 h2
    -- some pair has members
    obtain ⟨x0, hx0⟩ := List.exists_mem_of_ne_nil _ ne
    obtain ⟨dm, edm, mdm, udm⟩ := maxI_some (l := O.map fun x => x.2.2) (by simpa using ne)
    have h0 : (0 : Int) < O.length := by have := List.length_pos_iff.2 ne; omega
    have hne : Cs O (nth O 0).1 dm ≠ [] := fun z => by
      have : (0 : Int) ∈ Cs O (nth O 0).1 dm := mem_Cs.2 ⟨⟨Int.le_refl _, h0⟩, Int.le_refl _, udm _ (List.mem_map.2 ⟨_, nth_mem (Int.le_refl _) h0, rfl⟩)⟩
      rw [z] at this; cases this
    obtain ⟨v, ev, _⟩ := h2 (nth O 0).1 (usort_mem.2 (List.mem_map.2 ⟨_, nth_mem (Int.le_refl _) h0, rfl⟩)) dm (usort_mem.2 mdm) hne
    obtain ⟨q1, q2⟩ := h1 v ev
    refine ⟨v.2, by rw [ev]; rfl, q1, ?_, fun c mc d md hn => ?_⟩
    · have := (asc_sublist _ 0 v.2 rfl q1.2.1 q1.2.2).length_le
      rw [rng_len] at this; omega
    · obtain ⟨w, ew, hw⟩ := h2 c (usort_mem.2 mc) d (usort_mem.2 md) hn
      rw [ev] at ew; cases ew
      rw [← q2]; exact hw
/-! ### what days tells -/
theorem days_ok (o : OOk O) (ne : O ≠ []) : ∃ (P : List O3) (E : List (Option Int)) (M : List Int), m_worked 2000 O = some (P, E) ∧ m__law_worked 2000 O (O.map fun x => x.2.2) = some (P, E) ∧ m_days 2000 O = some (some (lateV O P), P, M) ∧ pfR O P = .none ∧ lateV O P ≤ heldV O M ∧ (P ≠ [] ∧ P.length ≤ 18 ∧ ∀ x ∈ P, (0 ≤ x.1 ∧ x.1 ≤ 1000) ∧ (0 ≤ x.2.1 ∧ x.2.1 ≤ 1000) ∧ 0 ≤ x.2.2 ∧ x.2.2 < O.length) ∧ (E.length ≤ 9 ∧ ∀ e ∈ E, ∀ v, e = some v → v.natAbs ≤ 1000) ∧ MOk O M ∧ M.length ≤ 9 := by
  have hO := o.len
  obtain ⟨st, ew, s, ad, lw⟩ := work_ok o ne
  suffices ∃ M, m_days 2000 O = some (some (lateV O st.2.2.2.1), st.2.2.2.1, M) ∧ pfR O st.2.2.2.1 = .none ∧ lateV O st.2.2.2.1 ≤ heldV O M ∧ (st.2.2.2.1 ≠ [] ∧ st.2.2.2.1.length ≤ 18 ∧ ∀ x ∈ st.2.2.2.1, (0 ≤ x.1 ∧ x.1 ≤ 1000) ∧ (0 ≤ x.2.1 ∧ x.2.1 ≤ 1000) ∧ 0 ≤ x.2.2 ∧ x.2.2 < O.length) ∧ (st.2.2.1.length ≤ 9 ∧ ∀ e ∈ st.2.2.1, ∀ v, e = some v → v.natAbs ≤ 1000) ∧ MOk O M ∧ M.length ≤ 9 by
    obtain ⟨M, h1, h2⟩ := this
    exact ⟨_, _, M, ew, lw, h1, h2⟩
  unfold m_days
  have he : (!(!List.isEmpty O)) = false := by cases O with
    | nil => exact absurd rfl ne
    | cons _ _ => rfl
  rw [he, ite_f]
  rw [ew, Option.bind_some]
  dsimp only
  have enk : ∀ k : Int, 0 ≤ k → k < O.length → ∃ e, en_ st k = some e ∧ lastE st.2.2.2.1 k = some e := fun k k0 k1 => by
    cases h : en_ st k with
    | none => exact absurd (ad k k0 k1) ((s.eq k k0 k1).1 h)
    | some e => exact ⟨e, rfl, s.enE k e k0 k1 h⟩
  have hev : ∀ k : Int, 0 ≤ k → k < O.length → st.2.2.1.getD k.toNat none = some (eV st.2.2.2.1 k) := fun k k0 k1 => by
    obtain ⟨e, h1, h2⟩ := enk k k0 k1
    show en_ st k = _
    unfold eV
    rw [h1, h2]; rfl
  rw [late_by_ok hO ne s.le hev, Option.bind_some]
  obtain ⟨M, eM, mM, lM, cM⟩ := crit_ok hO ne
  rw [eM, Option.bind_some]
  have hpf : pfR O st.2.2.2.1 = .none := by
    obtain ⟨b, D, sc, _, hD, hv⟩ := s.sc
    unfold pfR
    rw [sc]
    dsimp only
    unfold timeR
    rw [List.find?_eq_none.2 fun k mk => by
      have mk := mem_rng.1 mk
      rw [hv k mk.1 mk.2, ad k mk.1 mk.2, decide_eq_false (by omega)]
      exact Bool.false_ne_true]
    rfl
  obtain ⟨L, eL, mL, uL⟩ := maxI_some (late_ne ne st.2.2.2.1)
  have hL : lateV O st.2.2.2.1 = L := by unfold lateV; rw [eL]; rfl
  obtain ⟨j, mj, hj⟩ := List.mem_map.1 mL
  have mj := mem_rng.1 mj
  have held : lateV O st.2.2.2.1 ≤ heldV O M := by
    obtain ⟨e, h1, h2⟩ := enk j mj.1 mj.2
    have eVj : eV st.2.2.2.1 j = e := by unfold eV; rw [h2]; rfl
    obtain ⟨t0, q1, q2⟩ := s.i6 j e mj.1 mj.2 h1
    have jC : j ∈ Cs O t0 (nth O j).2.2 := mem_Cs.2 ⟨mj, q1, Int.le_refl _⟩
    obtain ⟨c0, ec0, mc0, uc0⟩ := minI_some (l := (Cs O t0 (nth O j).2.2).map fun k => (nth O k).1) (fun z => by
      rw [List.map_eq_nil_iff] at z; rw [z] at jC; cases jC)
    obtain ⟨j0, mj0, hj0⟩ := List.mem_map.1 mc0
    have mj0' := mem_Cs.1 mj0
    have eC : Cs O c0 (nth O j).2.2 = Cs O t0 (nth O j).2.2 := by
      refine List.filter_congr fun k mk => ?_
      have mk := mem_rng.1 mk
      rw [decide_eq_decide]
      constructor
      · rintro ⟨a, b⟩; exact ⟨by omega, b⟩
      · rintro ⟨a, b⟩; exact ⟨uc0 _ (List.mem_map.2 ⟨k, mem_Cs.2 ⟨mk, a, b⟩, rfl⟩), b⟩
    have nC : Cs O c0 (nth O j).2.2 ≠ [] := fun z => by rw [eC] at z; rw [z] at jC; cases jC
    have := cM c0 (List.mem_map.2 ⟨_, nth_mem mj0'.1.1 mj0'.1.2, hj0⟩) (nth O j).2.2 (List.mem_map.2 ⟨_, nth_mem mj.1 mj.2, rfl⟩) nC
    rw [eC] at this
    refine Int.le_trans ?_ this
    obtain ⟨d1, ed1, md1, ud1⟩ := maxI_some (l := (Cs O t0 (nth O j).2.2).map fun k => (nth O k).2.2) (fun z => by
      rw [List.map_eq_nil_iff] at z; rw [z] at jC; cases jC)
    obtain ⟨j1, mj1, hj1⟩ := List.mem_map.1 md1
    have := (mem_Cs.1 mj1).2.2
    unfold heldV
    rw [ec0, ed1, Option.getD_some, Option.getD_some, hL]
    omega
  have nbd : st.2.2.2.2 ≤ 1000 := by
    have h1 := s.nb.2
    have h2 := sum_bd (f := fun k => (nth O k).2.1 - lf st k) (b := 100) (L := rangeL 0 (O.length : Int)) fun k mk => by
      have mk := mem_rng.1 mk
      have := nthb o mk.1 mk.2
      have := s.lb k mk.1 mk.2
      omega
    rw [rng_len] at h2
    omega
  have pne : st.2.2.2.1 ≠ [] := fun z => by
    obtain ⟨e, _, h2⟩ := enk j mj.1 mj.2
    rw [z] at h2; cases h2
  refine ⟨M, rfl, hpf, held, ⟨pne, by have := s.pl; omega, fun x mx => ?_⟩, ⟨by rw [s.le]; omega, fun e me v he => ?_⟩, mM, lM⟩
  · have := s.pb x mx; omega
  · obtain ⟨n, hn, rfl⟩ := List.getElem_of_mem me
    have hn2 : (n : Int) < O.length := by have := s.le; omega
    obtain ⟨e, h1, h2⟩ := enk n (by omega) hn2
    unfold en_ at h1
    rw [Int.toNat_natCast, List.getD_eq_getElem?_getD, List.getElem?_eq_getElem hn, Option.getD_some, he] at h1
    cases h1
    unfold lastE at h2
    obtain ⟨x, hx, rfl⟩ := Option.map_eq_some_iff.1 h2
    have := s.pb x (List.mem_filter.1 (List.mem_of_getLast? hx)).1
    omega
end
section
variable {O : List O3} {Ky : List Int}
/-! ### the law's run by any keys -/
structure KI (O : List O3) (L : List Int) (E : List (Option Int)) (P : List O3) (now : Int) : Prop where
  ll : L.length = O.length
  me : MatchE O E P
  lb : ∀ k : Int, 0 ≤ k → k < O.length → 0 ≤ L.getD k.toNat 0 ∧ L.getD k.toNat 0 ≤ (nth O k).2.1
  sc : ∃ b D, scan O P 0 none (List.replicate O.length 0) = .inr (b, D) ∧ (∀ b0, b = some b0 → b0 ≤ now) ∧ D.length = O.length ∧ ∀ k : Int, 0 ≤ k → k < O.length → D.getD k.toNat 0 = (nth O k).2.1 - L.getD k.toNat 0
  nb : 0 ≤ now ∧ now ≤ 100 + ((rangeL 0 (O.length : Int)).map fun k => (nth O k).2.1 - L.getD k.toNat 0).sum
  pl : (P.length : Int) ≤ now
theorem KI.now (o : OOk O) {L : List Int} {E : List (Option Int)} {P : List O3} {now : Int} (s : KI O L E P now) : now ≤ 1000 := by
  have hO := o.len
  have h := s.nb.2
  have : ((rangeL 0 (O.length : Int)).map fun k => (nth O k).2.1 - L.getD k.toNat 0).sum ≤ 100 * (rangeL 0 (O.length : Int)).length := sum_bd fun k m => by
    have m := mem_rng.1 m
    have := nthb o m.1 m.2
    have := s.lb k m.1 m.2
    omega
  rw [rng_len] at this
  omega
theorem krun (o : OOk O) (hK : Ky.length = O.length) : ∀ (N : Nat) (L : List Int) (E : List (Option Int)) (P : List O3) (now : Int), KI O L E P now → (N : Int) + now = 2000 → ∃ P' E', whileO N (L, E, P, now) (ub O Ky) = some (P', E') ∧ pfR O P' = .none ∧ MatchE O E' P'
  | 0, L, E, P, now, s, h => by have := s.now o; omega
  | N + 1, L, E, P, now, s, h => by
    have hO := o.len
    have nw := s.now o
    have nb := s.nb
    have nn : ∀ x ∈ L, 0 ≤ x := nn_of fun k k0 k1 => (s.lb k k0 (by rw [← s.ll]; exact k1)).1
    show ∃ P' E', ub O Ky (L, E, P, now) _ = _ ∧ _
    by_cases sp : 0 < L.sum
    · by_cases idle : ∀ k : Int, 0 ≤ k → k < O.length → (nth O k).1 ≤ now → ¬ 0 < L.getD k.toNat 0
      · rw [ub_idle (by omega) s.ll hK sp idle]
        refine krun o hK N L E P (now + 1) ⟨s.ll, s.me, s.lb, ?_, ⟨by omega, ?_⟩, by have := s.pl; omega⟩ (by omega)
        · obtain ⟨b, D, e, hb, hD⟩ := s.sc
          exact ⟨b, D, e, fun b0 e0 => by have := hb b0 e0; omega, hD⟩
        · have nz : ¬ ∀ k : Int, 0 ≤ k → k < O.length → L.getD k.toNat 0 = 0 := fun z => by
            have := sum_zero (all_zero fun k k0 k1 => z k k0 (by rw [← s.ll]; exact k1))
            omega
          obtain ⟨k, hk⟩ := Classical.not_forall.1 nz
          obtain ⟨k0, hk⟩ := Classical.not_imp.1 hk
          obtain ⟨k1, hk⟩ := Classical.not_imp.1 hk
          have l1 := s.lb k k0 k1
          have c : ¬ (nth O k).1 ≤ now := fun z => idle k k0 k1 z (by omega)
          have := nthb o k0 k1
          have : 0 ≤ ((rangeL 0 (O.length : Int)).map fun k => (nth O k).2.1 - L.getD k.toNat 0).sum := sum_nn fun k m => by
            have m := mem_rng.1 m
            have := s.lb k m.1 m.2
            omega
          omega
      · obtain ⟨j, hj⟩ := Classical.not_forall.1 idle
        obtain ⟨j0, hj⟩ := Classical.not_imp.1 hj
        obtain ⟨j1, hj⟩ := Classical.not_imp.1 hj
        obtain ⟨jc, hj⟩ := Classical.not_imp.1 hj
        have hj := Classical.not_not.1 hj
        have pw := sort2_pw (abl O Ky L now)
        change (sortB (lt2 ltI ltI) _).Pairwise _ at pw
        have mj : (Ky.getD j.toNat 0, j) ∈ sortB (lt2 ltI ltI) (abl O Ky L now) := sortB_mem.2 (mem_abl.2 ⟨⟨j0, j1⟩, ⟨jc, hj⟩, rfl⟩)
        cases hs : sortB (lt2 ltI ltI) (abl O Ky L now) with
        | nil => rw [hs] at mj; cases mj
        | cons y ys =>
          have my : y ∈ abl O Ky L now := sortB_mem.1 (by rw [hs]; exact List.mem_cons_self ..)
          obtain ⟨y1, y2, y3⟩ := mem_abl.1 my
          rw [hs] at pw
          have first : ∀ j : Int, 0 ≤ j → j < O.length → (nth O j).1 ≤ now → 0 < L.getD j.toNat 0 → Ky.getD y.2.toNat 0 < Ky.getD j.toNat 0 ∨ (Ky.getD y.2.toNat 0 = Ky.getD j.toNat 0 ∧ y.2 ≤ j) := fun j j0 j1 jc hj => by
            have mj : (Ky.getD j.toNat 0, j) ∈ sortB (lt2 ltI ltI) (abl O Ky L now) := sortB_mem.2 (mem_abl.2 ⟨⟨j0, j1⟩, ⟨jc, hj⟩, rfl⟩)
            rw [hs] at mj
            rcases List.mem_cons.1 mj with e | m
            · rw [← e]; exact .inr ⟨rfl, Int.le_refl _⟩
            · have a2 := (List.pairwise_cons.1 pw).1 _ m
              dsimp only at a2
              omega
          have pl := s.pl
          rw [ub_work (by omega) s.ll hK s.me.1 (by omega) sp y1.1 y1.2 y2.1 y2.2 first]
          obtain ⟨b, D, sc, hb, hD, hDv⟩ := s.sc
          obtain ⟨D', sc', hD', hDv', hlE, hpn⟩ := addP_ok (size := 1) sc hb hD y1.1 y1.2 (by omega) y2.1
          have lft : ∀ k : Int, 0 ≤ k → k < O.length → (L.set y.2.toNat (L.getD y.2.toNat 0 - 1)).getD k.toNat 0 = if k = y.2 then L.getD k.toNat 0 - 1 else L.getD k.toNat 0 := fun k k0 _ => by
            rw [set_get y1.1 (by rw [s.ll]; exact y1.2) k0]
            by_cases c : k = y.2
            · rw [if_pos c, if_pos c, c]
            · rw [if_neg c, if_neg c]
          refine krun o hK N _ _ _ (now + 1) ⟨by rw [List.length_set]; exact s.ll, ⟨by rw [List.length_set]; exact s.me.1, fun k k0 k1 => ?_⟩, fun k k0 k1 => ?_, ⟨_, D', sc', fun b0 e => by cases e; exact Int.le_refl _, hD', fun k k0 k1 => ?_⟩, ⟨by omega, ?_⟩, by omega⟩ (by omega)
          · rw [set_get y1.1 (by rw [s.me.1]; exact y1.2) k0]
            unfold eV
            rw [hlE]
            by_cases c : k = y.2
            · rw [if_pos c, if_pos c]; rfl
            · rw [if_neg c, if_neg c]; exact s.me.2 k k0 k1
          · have := s.lb k k0 k1
            rw [lft k k0 k1]
            split
            · rename_i c; subst c; omega
            · exact this
          · rw [hDv' k k0 k1, hDv k k0 k1, lft k k0 k1]
            split <;> omega
          · rw [sum_upd_on (f := fun k => (nth O k).2.1 - L.getD k.toNat 0) (a := y.2) (s := 1) rng_nodup (fun k m => mem_rng.1 m) (fun k k0 k1 => by
              rw [lft k k0 k1]
              split <;> omega) y1.1 y1.2, if_pos (mem_rng.2 y1)]
            omega
    · rw [ub_stop sp]
      refine ⟨P, E, rfl, ?_, s.me⟩
      have ad : ∀ k : Int, 0 ≤ k → k < O.length → L.getD k.toNat 0 = 0 := fun k k0 k1 => Classical.byContradiction fun z => by
        have := s.lb k k0 k1
        exact sp (sum_pos k0 (by rw [s.ll]; exact k1) (by omega) nn)
      obtain ⟨b, D, sc, _, hD, hv⟩ := s.sc
      unfold pfR
      rw [sc]
      dsimp only
      unfold timeR
      rw [List.find?_eq_none.2 fun k mk => by
        have mk := mem_rng.1 mk
        rw [hv k mk.1 mk.2, ad k mk.1 mk.2, decide_eq_false (by omega)]
        exact Bool.false_ne_true]
      rfl
theorem krun_ok (o : OOk O) (hK : Ky.length = O.length) : ∃ P E, m__law_worked 2000 O Ky = some (P, E) ∧ pfR O P = .none ∧ MatchE O E P := by
  have hO := o.len
  rw [law_worked_eq 2000 (by omega)]
  have hm : ∀ k : Int, 0 ≤ k → k < O.length → (O.map fun x => x.2.1).getD k.toNat 0 = (nth O k).2.1 := fun k k0 k1 => map_get (f := fun x => x.2.1) k0 k1
  refine krun o hK 2000 _ _ [] 0 ⟨List.length_map .., ⟨List.length_map .., fun k k0 k1 => ?_⟩, fun k k0 k1 => ?_, ⟨none, List.replicate O.length 0, rfl, (fun _ e => by cases e), by simp, fun k k0 k1 => ?_⟩, ⟨Int.le_refl _, ?_⟩, by decide⟩ rfl
  · obtain ⟨n, rfl⟩ := Int.eq_ofNat_of_zero_le k0
    have hn : n < O.length := by omega
    rw [List.getD_eq_getElem?_getD, List.getElem?_map, Int.toNat_natCast, List.getElem?_eq_getElem hn]; rfl
  · rw [hm k k0 k1]
    have := nthb o k0 k1
    omega
  · rw [hm k k0 k1, List.getD_eq_getElem?_getD, List.getElem?_replicate]
    split <;> simp
  · have : 0 ≤ ((rangeL 0 (O.length : Int)).map fun k => (nth O k).2.1 - (O.map fun x => x.2.1).getD k.toNat 0).sum := sum_nn fun k m => by
      have m := mem_rng.1 m
      rw [hm k m.1 m.2]; omega
    omega
/-! ### no row of pieces is less late than what a set holds -/
def tS (S : List Int) (D : List Int) : Int := (S.map fun k => D.getD k.toNat 0).sum
theorem hold_scan {S : List Int} (nd : S.Nodup) (vd : Vd O S) {lo0 hi : Int} (hlo : ∀ k ∈ S, lo0 ≤ (nth O k).1) : ∀ (P : List O3) (k : Nat) (b : Option Int) (D : List Int) (b' : Option Int) (D' : List Int) (lo : Int), D.length = O.length → scan O P k b D = .inr (b', D') → (∀ x ∈ P, x.2.2 ∈ S → x.2.1 ≤ hi) → (∀ s, (∀ b0, b = some b0 → b0 ≤ s) → lo0 ≤ s → lo ≤ s) → tS S D' ≤ tS S D + max 0 (hi - lo)
  | [], k, b, D, b', D', lo, _, h, _, _ => by
    unfold scan at h; cases h
    omega
  | x :: P, k, b, D, b', D', lo, hD, h, hh, hl => by
    unfold scan at h
    cases h2 : stp O k b D x with
    | inl d => rw [h2] at h; cases h
    | inr D2 =>
      rw [h2] at h
      dsimp only at h
      obtain ⟨q1, q2, q3, q4, q5⟩ := stp_some h2
      have l2 := stp_len h2
      have upd : ∀ k : Int, 0 ≤ k → k < O.length → D2.getD k.toNat 0 = if k = x.2.2 then D.getD k.toNat 0 + (x.2.1 - x.1) else D.getD k.toNat 0 := fun k k0 k1 => by
        rw [q5, set_get q1.1 (by omega) k0]
        by_cases c : k = x.2.2
        · rw [if_pos c, if_pos c, c]; omega
        · rw [if_neg c, if_neg c]
      have e2 : tS S D2 = tS S D + (if x.2.2 ∈ S then x.2.1 - x.1 else 0) := sum_upd_on (f := fun k => D.getD k.toNat 0) nd vd upd q1.1 q1.2
      by_cases c : x.2.2 ∈ S
      · rw [if_pos c] at e2
        have ih := hold_scan nd vd hlo P (k + 1) (some x.2.1) D2 b' D' x.2.1 (by omega) h (fun y m => hh y (List.mem_cons_of_mem _ m)) fun s h1 _ => h1 _ rfl
        have h1 := hh x (List.mem_cons_self ..) c
        have h3 := hlo _ c
        have h4 := hl x.1 q3 (by omega)
        omega
      · rw [if_neg c] at e2
        have ih := hold_scan nd vd hlo P (k + 1) (some x.2.1) D2 b' D' lo (by omega) h (fun y m => hh y (List.mem_cons_of_mem _ m)) fun s h1 h2 => hl s (fun b0 e => by
          have := q3 b0 e
          have := h1 _ rfl
          omega) h2
        omega
theorem eV_ge {P : List O3} (g : Good O P) {x : O3} (m : x ∈ P) : x.2.1 ≤ eV P x.2.2 := by
  have v := (g.val x m).1
  obtain ⟨e, he⟩ := g.all x.2.2 v.1 v.2
  have a := asc_max (lastL_asc (k := x.2.2) g.asc) e (by rw [lastL_last]; exact he)
  have mx : x.2.1 ∈ lastL P x.2.2 := List.mem_filterMap.2 ⟨x, m, by rw [if_pos (decide_eq_true rfl)]⟩
  obtain ⟨v2, e2, _, u2⟩ := maxI_some (l := lastL P x.2.2) (fun z => by rw [z] at mx; cases mx)
  rw [a] at e2
  cases e2
  have := u2 _ mx
  unfold eV
  rw [he]
  exact this
theorem late_ge (o : OOk O) {P : List O3} (h : pfR O P = .none) {S : List Int} (m : MOk O S) : heldV O S ≤ lateV O P := by
  obtain ⟨ne, asc, vd⟩ := m
  have g := good_of o h
  have nd : S.Nodup := asc.imp fun {a b} z e => by omega
  have neO : O ≠ [] := fun z => by
    cases S with
    | nil => exact ne rfl
    | cons k S =>
      have := vd k (List.mem_cons_self ..)
      rw [z] at this
      simp at this
      omega
  obtain ⟨lo, elo, mlo, ulo⟩ := minI_some (l := S.map fun k => (nth O k).1) (by simpa using ne)
  obtain ⟨d, ed, md, ud⟩ := maxI_some (l := S.map fun k => (nth O k).2.2) (by simpa using ne)
  obtain ⟨hi, ehi, mhi, uhi⟩ := maxI_some (l := S.map fun k => eV P k) (by simpa using ne)
  obtain ⟨j, mj, hj⟩ := List.mem_map.1 mhi
  have late : eV P j - (nth O j).2.2 ≤ lateV O P := by
    obtain ⟨v, e, _, u⟩ := maxI_some (late_ne neO P)
    unfold lateV
    rw [e]
    exact u _ (List.mem_map.2 ⟨j, mem_rng.2 (vd j mj), rfl⟩)
  have dj := ud _ (List.mem_map.2 ⟨j, mj, rfl⟩)
  unfold pfR at h
  cases h2 : scan O P 0 none (List.replicate O.length 0) with
  | inl d =>
    rw [h2] at h
    dsimp only at h
    have : pfR O P = .none := by unfold pfR; rw [h2]; exact h
    rcases pfR_sh (O := O) P with e | ⟨s, k, _, e⟩
    · exfalso
      have : ∀ (P : List O3) (k : Nat) (b : Option Int) (D : List Int) (d : PyData), scan O P k b D = .inl d → d ≠ .none := by
        intro P
        induction P with
        | nil => intro k b D d e; unfold scan at e; cases e
        | cons x P ih =>
          intro k b D d e
          unfold scan at e
          cases h3 : stp O k b D x with
          | inl d2 =>
            rw [h3] at e; cases e
            unfold stp at h3
            split at h3
            · cases h3; exact fun z => by cases z
            · split at h3
              · cases h3; exact fun z => by cases z
              · cases h3
          | inr D2 => rw [h3] at e; exact ih _ _ _ _ e
      exact this _ _ _ _ _ h2 h
    · rw [this] at e; cases e
  | inr bd =>
    obtain ⟨b, D⟩ := bd
    rw [h2] at h
    dsimp only at h
    have hD : D.length = O.length := by have := scan_len h2; simpa using this
    have ht : ∀ k ∈ S, D.getD k.toNat 0 = (nth O k).2.1 := fun k mk => by
      unfold timeR at h
      cases h3 : (rangeL 0 (O.length : Int)).find? fun k => decide (D.getD k.toNat 0 ≠ (nth O k).2.1) with
      | some y => rw [h3] at h; cases h
      | none =>
        have := List.find?_eq_none.1 h3 k (mem_rng.2 (vd k mk))
        exact Classical.byContradiction fun z => this (decide_eq_true z)
    have key := hold_scan (lo0 := lo) (hi := hi) nd vd (fun k mk => ulo _ (List.mem_map.2 ⟨k, mk, rfl⟩)) P 0 none (List.replicate O.length 0) b D lo (by simp) h2 (fun x mx c => Int.le_trans (eV_ge g mx) (uhi _ (List.mem_map.2 ⟨_, c, rfl⟩))) fun s _ h => h
    have e0 : tS S (List.replicate O.length 0) = 0 := by
      refine sum_zero fun x mx => ?_
      obtain ⟨k, _, rfl⟩ := List.mem_map.1 mx
      rw [List.getD_eq_getElem?_getD, List.getElem?_replicate]
      split <;> rfl
    have e1 : tS S D = (S.map fun k => (nth O k).2.1).sum := by
      unfold tS
      exact congrArg List.sum (List.map_congr_left ht)
    have pos : 1 ≤ (S.map fun k => (nth O k).2.1).sum := by
      cases S with
      | nil => exact absurd rfl ne
      | cons k S =>
        rw [List.map_cons, List.sum_cons]
        have v := vd k (List.mem_cons_self ..)
        have := nthb o v.1 v.2
        have : 0 ≤ (S.map fun k => (nth O k).2.1).sum := sum_nn fun k m => by
          have v := vd k (List.mem_cons_of_mem _ m)
          have := nthb o v.1 v.2
          omega
        omega
    unfold heldV
    rw [elo, ed, Option.getD_some, Option.getD_some]
    omega
end
/-! ### drawn things, the law -/
theorem take_eq : m__law_take = takeM := rfl
theorem state_eq : m__law_state = stateM := rfl
theorem compO_run {α β S Ω : Type} (Inv : S → Prop) (Pe : β → Prop) {b : α → S → (Option β → S → Option Ω) → Option Ω} : ∀ (xs : List α) (s : S) (acc : List β), Inv s → (∀ y ∈ acc, Pe y) → acc.length + xs.length ≤ SZ →
    (∀ x ∈ xs, ∀ s, Inv s → ∃ y s', Pe y ∧ Inv s' ∧ ∀ kc : Option β → S → Option Ω, b x s kc = kc (some y) s') → ∃ ys s', ys.length = acc.length + xs.length ∧ (∀ y ∈ ys, Pe y) ∧ Inv s' ∧ ∀ k : List β → S → Option Ω, compO xs s b acc k = k ys s'
  | [], s, acc, h0, ha, _, _ => ⟨acc, s, rfl, ha, h0, fun _ => rfl⟩
  | x :: xs, s, acc, h0, ha, hl, hs => by
    have hl' : acc.length + 1 + xs.length ≤ SZ := by simpa [Nat.add_assoc, Nat.add_comm 1] using hl
    obtain ⟨y, s1, py, i1, e1⟩ := hs x (List.mem_cons_self ..) s h0
    obtain ⟨ys, s', l, p, i, e⟩ := compO_run Inv Pe xs s1 (acc ++ [y]) i1 (fun z m => by
      rcases List.mem_append.1 m with m | m
      · exact ha z m
      · simp at m; subst m; exact py) (by simpa using hl') fun z m => hs z (List.mem_cons_of_mem _ m)
    refine ⟨ys, s', by simp at l ⊢; omega, p, i, fun k => ?_⟩
    show b x s _ = _
    rw [e1]
    show ck _ _ = _
    rw [ck_pos (decide_eq_true (show acc.length < SZ by omega)), e]
theorem orders_ok {t : TSt} (ht : t.2 ≠ []) : ∃ r, m__law_orders t 7 = some r ∧ r.2.2 ≠ [] ∧ OOk r.1 := by
  have hS : (1000000 : Nat) ≤ SZ := by decide
  unfold m__law_orders
  rw [take_eq]
  dsimp only
  obtain ⟨z, t1, e1, a1, b1, ht1⟩ := take_ok (m := 2) ht (by decide) (by decide)
  rw [e1, Option.bind_some]
  dsimp only
  obtain ⟨size, es, s0, s1⟩ : ∃ y, atI ([(4 : Int), (20 : Int)]) z = some y ∧ 1 ≤ y ∧ y ≤ 20 := by
    have : z = 0 ∨ z = 1 := by omega
    rcases this with rfl | rfl
    · exact ⟨4, rfl, by decide, by decide⟩
    · exact ⟨20, rfl, by decide, by decide⟩
  rw [es, Option.bind_some]
  obtain ⟨n, t2, e2, a2, b2, ht2⟩ := take_ok (m := 7 + 1) ht1 (by decide) (by decide)
  rw [e2, Option.bind_some]
  dsimp only
  rw [ck_pos (rgOk_s (by omega) (by omega) (by omega) (by omega))]
  refine forO_exN (Pr := fun r : List O3 × TSt => r.2.2 ≠ [] ∧ OOk r.1) (fun i (s : TSt × List O3) => s.1.2 ≠ [] ∧ s.2.length = i ∧ ∀ x ∈ s.2, (0 ≤ x.1 ∧ x.1 ≤ 100) ∧ (1 ≤ x.2.1 ∧ x.2.1 ≤ 100) ∧ 0 ≤ x.2.2 ∧ x.2.2 ≤ 300) _ 0 _ ⟨ht2, rfl, (fun _ m => nomatch m)⟩ (fun i s x hxi hv kc hk => ?_) (fun s hv => ?_)
  · obtain ⟨ht, hl, hb⟩ := hv
    have hi := lt_of_get hxi
    rw [rng_len] at hi
    rw [ck_pos (mulOk_l (by decide) (by decide))]
    obtain ⟨u, t3, e3, a3, b3, ht3⟩ := take_ok (m := 3 * size) ht (by omega) (by omega)
    rw [e3, Option.bind_some]
    dsimp only
    obtain ⟨v, t4, e4, a4, b4, ht4⟩ := take_ok (m := size) ht3 (by omega) (by omega)
    rw [e4, Option.bind_some]
    dsimp only
    rw [ck_pos (mulOk_l (by decide) (by decide))]
    obtain ⟨w, t5, e5, a5, b5, ht5⟩ := take_ok (m := 2 * size) ht4 (by omega) (by omega)
    rw [e5, Option.bind_some]
    dsimp only
    obtain ⟨q, t6, e6, a6, b6, ht6⟩ := take_ok (m := 2) ht5 (by decide) (by decide)
    rw [e6, Option.bind_some]
    dsimp only
    obtain ⟨y, ey, y0, y1⟩ : ∃ y, atI ([(0 : Int), 1 + v]) q = some y ∧ 0 ≤ y ∧ y ≤ 20 := by
      have : q = 0 ∨ q = 1 := by omega
      rcases this with rfl | rfl
      · exact ⟨0, rfl, by decide, by decide⟩
      · exact ⟨1 + v, rfl, by omega, by omega⟩
    rw [ey, Option.bind_some, ck_pos (decide_eq_true (by omega))]
    refine hk _ ⟨ht6, by rw [List.length_append, List.length_singleton]; omega, fun x mx => ?_⟩
    rcases List.mem_append.1 mx with m | m
    · exact hb x m
    · simp at m; subst m; dsimp only; omega
  · obtain ⟨ht, hl, hb⟩ := hv
    rw [rng_len] at hl
    exact ⟨_, rfl, ht, ⟨by dsimp only; omega, hb⟩⟩

structure TB (t : Option Int × List O3 × List Int) : Prop where
  l : ∀ v, t.1 = some v → v.natAbs ≤ 5000
  pl : t.2.1.length ≤ 40
  p : ∀ x ∈ t.2.1, x.1.natAbs ≤ 5000 ∧ x.2.1.natAbs ≤ 5000 ∧ x.2.2.natAbs ≤ 5000
  ml : t.2.2.length ≤ 40
  m : ∀ x ∈ t.2.2, x.natAbs ≤ 5000
theorem TB.sh {t : Option Int × List O3 × List Int} (h : TB t) : ∃ k m, k ≤ 60 ∧ m ≤ 1000000 ∧ Sh k m ((eT3 (eO eI nnI) (eL (eT3 eI eI eI)) (eL eI)).enc t) := by
  have b : (5001 : Nat) ≤ 10 ^ 12 := by decide
  have s1 : Sh 0 0 ((eO eI nnI).enc t.1) := by
    cases e : t.1 with
    | none => exact shN
    | some v => exact shI (i := v) (by have := h.l v e; omega)
  have s2 : Sh 2 (40 * (3 + 1)) ((eL (eT3 eI eI eI)).enc t.2.1) := shL (k := 1) (m := 3) (n := 40) (fun d md => by
    obtain ⟨x, mx, rfl⟩ := List.mem_map.1 md
    have := h.p x mx
    exact shT (shpC (shI (by omega)) (shpC (shI (by omega)) (shpC (shI (by omega)) shp0)))) (by rw [List.length_map]; exact h.pl)
  have s3 : Sh 1 (40 * 1) ((eL eI).enc t.2.2) := shInts ⟨h.ml, fun x mx => by have := h.m x mx; omega⟩
  exact ⟨_, _, by decide, by decide, shT (shpC s1 (shpC s2 (shpC s3 shp0)))⟩
theorem TB.shaped {t : Option Int × List O3 × List Int} (h : TB t) : SeqAt.shaped ((eT3 (eO eI nnI) (eL (eT3 eI eI eI)) (eL eI)).enc t) = true := by
  obtain ⟨k, m, h1, h2, s⟩ := h.sh
  exact s.shaped (by omega)
theorem sh_we {P : List O3} {E : List (Option Int)} (hP : P.length ≤ 18 ∧ ∀ x ∈ P, x.1.natAbs ≤ 5000 ∧ x.2.1.natAbs ≤ 5000 ∧ x.2.2.natAbs ≤ 5000) (hE : E.length ≤ 9 ∧ ∀ e ∈ E, ∀ v, e = some v → v.natAbs ≤ 1000) : SeqAt.shaped ((eT2 (eL (eT3 eI eI eI)) (eL (eO eI nnI))).enc (P, E)) = true := by
  have b : (5001 : Nat) ≤ 10 ^ 12 := by decide
  have s2 : Sh 2 (18 * (3 + 1)) ((eL (eT3 eI eI eI)).enc P) := shL (k := 1) (m := 3) (n := 18) (fun d md => by
    obtain ⟨x, mx, rfl⟩ := List.mem_map.1 md
    have := hP.2 x mx
    exact shT (shpC (shI (by omega)) (shpC (shI (by omega)) (shpC (shI (by omega)) shp0)))) (by rw [List.length_map]; exact hP.1)
  have s3 : Sh 1 (9 * (0 + 1)) ((eL (eO eI nnI)).enc E) := shL (k := 0) (m := 0) (n := 9) (fun d md => by
    obtain ⟨e, me, rfl⟩ := List.mem_map.1 md
    cases h : e with
    | none => exact shN
    | some v => exact shI (i := v) (by have := hE.2 e me v h; omega)) (by rw [List.length_map]; exact hE.1)
  exact (shT (shpC s2 (shpC s3 shp0))).shaped
theorem eqv_io {a : Int} {l : Option Int} : PyData.eqv ((eO eI nnI).enc l) (eI.enc a) = decide (l = some a) := by
  cases l with
  | none =>
    show PyData.eqv .none (.int a) = _
    unfold PyData.eqv; rfl
  | some b =>
    show PyData.eqv (.int b) (.int a) = _
    unfold PyData.eqv
    by_cases c : b = a
    · subst c; simp
    · rw [decide_eq_false (by intro z; cases z; exact c rfl)]; simpa using c
theorem heldR_sh {O : List O3} {l : Option Int} {M : List Int} : SeqAt.shaped (heldR O l M) = true := by
  unfold heldR
  split
  · exact shaped_none
  · exact shaped_wd (by decide +kernel)
theorem heldD {O : List O3} {l : Int} {M : List Int} : (if decide (l ≤ heldV O M) = true then some PyData.none else some (PyData.tuple [PyData.str ("held" : Str)])) = some (heldR O (some l) M) := by
  unfold heldR
  rw [Option.getD_some, ite_d]
  by_cases c : l ≤ heldV O M
  · rw [if_pos c, if_pos c]
  · rw [if_neg c, if_neg c]; rfl
theorem same_held {O : List O3} {l : Option Int} {M : List Int} : ck (SeqAt.shaped (eD.enc (heldR O l M)) && SeqAt.shaped (eD.enc (heldR O l M))) (some (!PyData.eqv (eD.enc (heldR O l M)) (eD.enc (heldR O l M)))) = some false := by
  show ck (SeqAt.shaped (heldR O l M) && SeqAt.shaped (heldR O l M)) (some (!PyData.eqv (heldR O l M) (heldR O l M))) = _
  rw [heldR_sh, shaped_eqv heldR_sh]; rfl
theorem held_run {O : List O3} {row : List Int} (ne : row ≠ []) (asc : row.Pairwise (· < ·)) (vd : Vd O row) {l : Int} {P : List O3} (h : pfR O P = .none) (hl : l = lateV O P) : flR O (some l) P row = heldR O (some l) row := by
  unfold flR
  rw [h]
  show (if true = true then _ else _) = _
  rw [ite_t, if_pos (by rw [hl]), if_pos ⟨ne, asc, vd⟩]
theorem law_true (ns : List Int) (hn : ns.length ≤ 63) : m_law 2000 ns = some true := by
  have hS : (1000000 : Nat) ≤ SZ := by decide
  obtain ⟨t, et, ht⟩ := state_ok hn
  unfold m_law
  rw [state_eq]
  refine bind_wp et ?_
  dsimp only
  obtain ⟨⟨O, t⟩, eo, ht, o⟩ := orders_ok ht
  refine bind_wp eo ?_
  dsimp only at ht o ⊢
  have hO := o.len
  have sO : Sh 2 (9 * (3 + 1)) ((eL (eT3 eI eI eI)).enc O) := shL (k := 1) (m := 3) (n := 9) (fun d md => by
    obtain ⟨x, mx, rfl⟩ := List.mem_map.1 md
    have := o.bd x mx
    have b : (301 : Nat) ≤ 10 ^ 12 := by decide
    exact shT (shpC (shI (by omega)) (shpC (shI (by omega)) (shpC (shI (by omega)) shp0)))) (by rw [List.length_map]; exact hO)
  have esr := sO.repr
  refine bind_wp esr ?_
  rw [compO_map (fun x : O3 => x.2.2) () _ [] (by simp; omega) (fun _ _ _ => rfl), List.nil_append]
  by_cases ne : O = []
  · subst ne
    have tb0 : TB ((none, [], []) : Option Int × List O3 × List Int) := ⟨(fun v e => by cases e), by decide, (fun _ m => nomatch m), by decide, (fun _ m => nomatch m)⟩
    have hq : PyData.eqv ((eT3 (eO eI nnI) (eL (eT3 eI eI eI)) (eL eI)).enc ((none, [], []) : Option Int × List O3 × List Int)) ((eT3 (eO eI nnI) (eL (eT3 eI eI eI)) (eL eI)).enc (none, ([] : (List (Int × Int × Int))), ([] : (List Int)))) = true := shaped_eqv tb0.shaped
    have q1 : (!(!List.isEmpty ([] : List O3))) = true := rfl
    have q2 : decide ((List.length ([] : List O3) : Int) = (0 : Int)) = true := rfl
    have ew : m_worked 2000 [] = some ([], []) := by decide +kernel
    have lw : m__law_worked 2000 [] (([] : List O3).map fun x : O3 => x.2.2) = some ([], []) := by decide +kernel
    have ed : m_days 2000 [] = some (none, [], []) := rfl
    have lf : m__law_fault [] (none, [], []) = some PyData.none := by
      unfold m__law_fault
      dsimp only
      rw [q2, ite_t, tb0.shaped, hq]; rfl
    have pf : m_days_fault [] (none, [], []) = some PyData.none := by
      unfold m_days_fault
      dsimp only
      rw [q1, ite_t, tb0.shaped, hq]; rfl
    have sh1 : SeqAt.shaped ((eT2 (eL (eT3 eI eI eI)) (eL (eO eI nnI))).enc (([], []) : List O3 × List (Option Int))) = true := sh_we ⟨by decide, fun _ m => nomatch m⟩ ⟨by decide, fun _ m => nomatch m⟩
    refine bind_wp (a := false) ?_ ?_
    · refine bind_wp ew (bind_wp lw (ck_wp (by rw [sh1]; rfl) ?_))
      rw [shaped_eqv sh1, ite_nt]
      refine bind_wp esr ?_
      rw [decide_eq_true rfl]; rfl
    rw [ite_f]
    refine bind_wp ed ?_
    dsimp only
    refine bind_wp (a := false) ?_ ?_
    · show (if false = true then _ else _) = _
      rw [ite_f]
      refine bind_wp lf ?_
      show (if false = true then _ else _) = _
      rw [ite_f]
      refine bind_wp pf ?_
      rfl
    rw [ite_f, q2, ite_t]
  obtain ⟨P, E, M, ew, lw, ed, hpf, held, hP, hE, mM, lM⟩ := days_ok o ne
  have lv : lateV O P = heldV O M := by
    have := late_ge o hpf mM
    omega
  have sh1 : SeqAt.shaped ((eT2 (eL (eT3 eI eI eI)) (eL (eO eI nnI))).enc (P, E)) = true := sh_we ⟨hP.2.1, fun x mx => by have := hP.2.2 x mx; omega⟩ hE
  refine bind_wp (a := false) ?_ ?_
  · refine bind_wp ew (bind_wp lw (ck_wp (by rw [sh1]; rfl) ?_))
    rw [shaped_eqv sh1, ite_nt]
    refine bind_wp esr ?_
    rw [decide_eq_true rfl]; rfl
  rw [ite_f]
  refine bind_wp ed ?_
  dsimp only
  have hfl : flR O (some (lateV O P)) P M = .none := by
    rw [held_run mM.1 mM.2.1 mM.2.2 hpf rfl]
    unfold heldR
    rw [Option.getD_some, if_pos held]
  refine bind_wp (a := false) ?_ ?_
  · show (if false = true then _ else _) = _
    rw [ite_f]
    refine bind_wp (lf_ok o ne _ (by omega) (by omega)) ?_
    rw [hfl]
    show (if false = true then _ else _) = _
    rw [ite_f]
    refine bind_wp (pf_ok o ne _ (by omega)) ?_
    rw [hfl]; rfl
  rw [ite_f]
  have lp := List.length_pos_iff.2 ne
  rw [decide_eq_false (by omega), ite_f, ck_pos (rgOk_s (by omega) (by omega) (by omega) (by omega))]
  have hrl : (rangeL 0 (O.length : Int)).length = O.length := by rw [rng_len]; omega
  have p9 : 2 ^ O.length ≤ 2 ^ 9 := Nat.pow_le_pow_right (by decide) hO
  have v9 : (2 : Nat) ^ 9 = 512 := by decide
  refine (sets_walk _ _ (fun a m => by simp at m; subst m; simp [hrl]; omega) (by
    rw [hrl]
    simp only [List.length_cons, List.length_nil]; omega)).trans ?_
  have lR : ((rangeL 0 (O.length : Int)).foldl (fun s k => s ++ s.map (· ++ [k])) [[]]).length ≤ 512 := by
    have := subs_len (rangeL 0 (O.length : Int))
    unfold subs at this
    rw [this, hrl]; omega
  have mR : ∀ row, row ∈ ((rangeL 0 (O.length : Int)).foldl (fun s k => s ++ s.map (· ++ [k])) [[]]) ↔ List.Sublist row (rangeL 0 (O.length : Int)) := fun row => mem_subs
  generalize ((rangeL 0 (O.length : Int)).foldl (fun s k => s ++ s.map (· ++ [k])) [[]]) = R at lR mR ⊢
  have okR : ∀ row ∈ R, row.Pairwise (· < ·) ∧ Vd O row ∧ row.length ≤ 9 := fun row m => by
    have s := (mR row).1 m
    refine ⟨rangeL_asc.sublist s, fun k mk => mem_rng.1 (s.subset mk), by have := s.length_le; omega⟩
  have tst : ∀ row : List Int, decide ((0 : Int) < (List.length row : Int)) = decide (row ≠ []) := fun row => by
    rw [decide_eq_decide]
    exact ⟨fun h z => by rw [z] at h; simp at h, fun h => by have := List.length_pos_iff.2 h; omega⟩
  rw [compO_filterMap (fun row : List Int => if decide (row ≠ []) = true then some (heldV O row) else none) () _ [] (by simp; omega) (fun row mrow kc => by
    obtain ⟨asc, vd, l9⟩ := okR row mrow
    rw [tst]
    by_cases c : row = []
    · subst c; rfl
    · rw [decide_eq_true c, ite_t, if_pos rfl, lheld_eq, held_ok vd (by omega) c]; rfl), List.nil_append]
  have emx : maxI (R.filterMap fun row : List Int => if decide (row ≠ []) = true then some (heldV O row) else none) = some (lateV O P) := by
    refine maxI_of (List.mem_filterMap.2 ⟨M, (mR M).2 ?_, by rw [if_pos (decide_eq_true mM.1), lv]⟩) fun y my => ?_
    · exact asc_sublist _ 0 M rfl mM.2.1 mM.2.2
    · obtain ⟨row, mrow, e⟩ := List.mem_filterMap.1 my
      obtain ⟨asc, vd, l9⟩ := okR row mrow
      split at e
      · rename_i c
        cases e
        exact late_ge o hpf ⟨of_decide_eq_true c, asc, vd⟩
      · cases e
  refine bind_wp emx ?_
  rw [sh_oi, sh_int, eqv_io, decide_eq_true rfl, ite_nt]
  show ck true _ = _
  rw [ck_pos rfl]
  refine (forO_skip _ fun row mrow kc => ?_).trans ?_
  · obtain ⟨asc, vd, l9⟩ := okR row mrow
    rw [tst]
    by_cases c : row = []
    · subst c; rfl
    · rw [decide_eq_true c, ite_t, ite_t, lheld_eq, held_ok vd (by omega) c, Option.bind_some, Option.bind_some, decide_eq_true rfl, pf_ok o ne _ (by omega), held_run c asc vd hpf rfl]
      rw [Option.bind_some, show (!true) = false from rfl, ite_f, Option.bind_some, Option.bind_some, Option.bind_some, heldD, Option.bind_some, same_held]
      rfl
  refine ck_wp (rgOk_s (by decide) (by decide) (by decide) (by decide)) (forO_wp (fun t : TSt => t.2 ≠ []) ht (fun t x mx ht kc hk => ?_) fun t ht => ?_)
  · obtain ⟨K, t', lK, _, it, eK⟩ := compO_run (Ω := Bool) (fun t : TSt => t.2 ≠ []) (fun _ : Int => True) (b := fun (x1110 : O3) (t1109 : TSt) kc1117 => (
                      (m__law_take t1109 (9 : Int)).bind fun r1113 =>
                      kc1117 (some r1113.1) r1113.2)) O t [] ht (fun _ m => nomatch m) (by simp; omega) (fun x mx t ht => by
      obtain ⟨v, t1, e1, _, _, ht1⟩ := take_ok (m := 9) ht (by decide) (by decide)
      exact ⟨v, t1, trivial, ht1, fun kc => by rw [take_eq, e1]; rfl⟩)
    refine (eK _).trans ?_
    rw [List.length_nil, Nat.zero_add] at lK
    obtain ⟨P2, E2, ew2, pf2, me2⟩ := krun_ok (Ky := K) o lK
    refine bind_wp ew2 ?_
    dsimp only
    rw [ck_pos (rgOk_s (by omega) (by omega) (by omega) (by omega)), compO_map (fun k : Int => eV P2 k - (nth O k).2.2) () _ [] (by rw [rng_len]; simp; omega) (fun k mk kc => by
      have mk := mem_rng.1 mk
      rw [at_getD none mk.1 (by have := me2.1; omega), Option.bind_some, me2.2 k mk.1 mk.2, Option.bind_some, at_nth mk.1 mk.2, Option.bind_some]), List.nil_append]
    refine bind_wp (late_some ne P2) ?_
    have ge2 := late_ge o pf2 mM
    refine bind_wp (a := false) ?_ ?_
    · rw [Option.bind_some, decide_eq_false (by omega), ite_f, pf_ok o ne _ (by omega), Option.bind_some, held_run mM.1 mM.2.1 mM.2.2 pf2 rfl, sh_int, eqv_oi, show decide (some (lateV O P) = some (lateV O P2)) = decide (lateV O P2 ≤ heldV O M) by
        rw [decide_eq_decide]
        exact ⟨fun z => by have : lateV O P = lateV O P2 := Option.some.inj z
                           omega, fun z => congrArg some (by omega)⟩, heldD]
      show Option.bind (some _) _ = _
      rw [Option.bind_some, same_held]
    · rw [ite_f]; exact hk _ it
  · refine bind_wp esr ?_
    rw [decide_eq_true rfl]

/-- what the law's call promises -/
def spLaw (K : Fg) : Sp := fun vs H Q _ => ∃ (a : Addr) (ns : List Int), vs = [.ref a] ∧ SqL K H a (ns.map V.int) ∧ ns.length ≤ 63 ∧ ∀ H', Q (.bl true) H'
theorem ok_end {P : Program} {w : World} {K : Fg} {mg : Str → Option Value} {base : Heap} (fa : Fa K mg) : FnG P w K mg base 5 fa.f_law fa.fd_law ["script"] (spLaw K) :=
  (ok_law fa 2000).weak fun vs H Q E h => by
    obtain ⟨a, ns, rfl, hS, hlen, q⟩ := h
    exact law_sp hS (law_true ns hlen) q
theorem all_mk {l : PySem.W.OpenLaw} {w : World} {K : Fg} {h : Heap} {mg : Str → Option Value} {fz cc0 f0 f1 f2 f3 f4 f5 f6 f7 f8 f9 f10 f11 f12 f13 f14 f15 f16 f17 f18 f19 : Addr} (X : K.In h) (G : h.Ns mainGlobals mg) (hfa : mg "law" = some (.ref fz))
    (aC0 : PySem.W.nsIn K mainGlobals "Shop" = some (some (.ref cc0))) (pg0 : PySem.W.plainGet K cc0 Str.empty = true) (hd0 : PySem.W.hasDictIn K cc0 = true) (po0 : PySem.W.plainOver K cc0 = true) (sa0 : PySem.W.findIn K (.ref cc0) "__setattr__" = some (some (.builtin "object.__setattr__"))) (mk0 : PySem.W.makesIn K cc0 = true) (kc0 : PySem.W.keepIn K (.ref cc0) = true)
    (nA0_0 : PySem.W.findIn K (.ref cc0) "orders" = some none)
    (nA0_1 : PySem.W.findIn K (.ref cc0) "left" = some none)
    (nA0_2 : PySem.W.findIn K (.ref cc0) "ends" = some none)
    (nA0_3 : PySem.W.findIn K (.ref cc0) "pieces" = some none)
    (nA0_4 : PySem.W.findIn K (.ref cc0) "now" = some none)
    {od0 an0 : Option Addr} {sl0 : Array (Option Value)} {oc0 kV0 dc0 pm0 cd0 ct0 : Value}
    (a0 : PySem.W.findIn K (.ref cc0) "__init__" = some (some (.ref f0))) (i0 : PySem.W.isFn K (.ref f0) = true) (l0 : K.lookup f0 = some ⟨oc0, od0, .func (PySem.W.fnOf "__init__" "Shop.__init__" (defArgs s_Shop___init__) (defBody s_Shop___init__) (defScope s_Shop___init__) .none kV0 dc0 pm0 an0 cd0 ct0), sl0⟩) (c0 : PySem.W.codeIn K cd0 "Shop.__init__" = true) (k0 : PySem.W.keepIn K (.ref f0) = true)
    {od1 an1 : Option Addr} {sl1 : Array (Option Value)} {oc1 kV1 dc1 pm1 cd1 ct1 : Value}
    (a1 : PySem.W.findIn K (.ref cc0) "here" = some (some (.ref f1))) (i1 : PySem.W.isFn K (.ref f1) = true) (l1 : K.lookup f1 = some ⟨oc1, od1, .func (PySem.W.fnOf "here" "Shop.here" (defArgs s_Shop_here) (defBody s_Shop_here) (defScope s_Shop_here) .none kV1 dc1 pm1 an1 cd1 ct1), sl1⟩) (c1 : PySem.W.codeIn K cd1 "Shop.here" = true) (k1 : PySem.W.keepIn K (.ref f1) = true)
    {od2 an2 : Option Addr} {sl2 : Array (Option Value)} {oc2 kV2 dc2 pm2 cd2 ct2 : Value}
    (a2 : PySem.W.findIn K (.ref cc0) "step" = some (some (.ref f2))) (i2 : PySem.W.isFn K (.ref f2) = true) (l2 : K.lookup f2 = some ⟨oc2, od2, .func (PySem.W.fnOf "step" "Shop.step" (defArgs s_Shop_step) (defBody s_Shop_step) (defScope s_Shop_step) .none kV2 dc2 pm2 an2 cd2 ct2), sl2⟩) (c2 : PySem.W.codeIn K cd2 "Shop.step" = true) (k2 : PySem.W.keepIn K (.ref f2) = true)
    {od3 an3 : Option Addr} {sl3 : Array (Option Value)} {oc3 kV3 dc3 pm3 cd3 ct3 : Value}
    (a3 : PySem.W.findIn K (.ref cc0) "note" = some (some (.ref f3))) (i3 : PySem.W.isFn K (.ref f3) = true) (l3 : K.lookup f3 = some ⟨oc3, od3, .func (PySem.W.fnOf "note" "Shop.note" (defArgs s_Shop_note) (defBody s_Shop_note) (defScope s_Shop_note) .none kV3 dc3 pm3 an3 cd3 ct3), sl3⟩) (c3 : PySem.W.codeIn K cd3 "Shop.note" = true) (k3 : PySem.W.keepIn K (.ref f3) = true)
    {od4 an4 : Option Addr} {sl4 : Array (Option Value)} {oc4 kV4 dc4 pm4 cd4 ct4 : Value}
    (a4 : PySem.W.nsIn K mainGlobals "worked" = some (some (.ref f4))) (l4 : K.lookup f4 = some ⟨oc4, od4, .func (PySem.W.fnOf "worked" "worked" (defArgs s_worked) (defBody s_worked) (defScope s_worked) .none kV4 dc4 pm4 an4 cd4 ct4), sl4⟩) (c4 : PySem.W.codeIn K cd4 "worked" = true) (k4 : PySem.W.keepIn K (.ref f4) = true)
    {od5 an5 : Option Addr} {sl5 : Array (Option Value)} {oc5 kV5 dc5 pm5 cd5 ct5 : Value}
    (a5 : PySem.W.nsIn K mainGlobals "late_by" = some (some (.ref f5))) (l5 : K.lookup f5 = some ⟨oc5, od5, .func (PySem.W.fnOf "late_by" "late_by" (defArgs s_late_by) (defBody s_late_by) (defScope s_late_by) .none kV5 dc5 pm5 an5 cd5 ct5), sl5⟩) (c5 : PySem.W.codeIn K cd5 "late_by" = true) (k5 : PySem.W.keepIn K (.ref f5) = true)
    {od6 an6 : Option Addr} {sl6 : Array (Option Value)} {oc6 kV6 dc6 pm6 cd6 ct6 : Value}
    (a6 : PySem.W.nsIn K mainGlobals "held_by" = some (some (.ref f6))) (l6 : K.lookup f6 = some ⟨oc6, od6, .func (PySem.W.fnOf "held_by" "held_by" (defArgs s_held_by) (defBody s_held_by) (defScope s_held_by) .none kV6 dc6 pm6 an6 cd6 ct6), sl6⟩) (c6 : PySem.W.codeIn K cd6 "held_by" = true) (k6 : PySem.W.keepIn K (.ref f6) = true)
    {od7 an7 : Option Addr} {sl7 : Array (Option Value)} {oc7 kV7 dc7 pm7 cd7 ct7 : Value}
    (a7 : PySem.W.nsIn K mainGlobals "critical" = some (some (.ref f7))) (l7 : K.lookup f7 = some ⟨oc7, od7, .func (PySem.W.fnOf "critical" "critical" (defArgs s_critical) (defBody s_critical) (defScope s_critical) .none kV7 dc7 pm7 an7 cd7 ct7), sl7⟩) (c7 : PySem.W.codeIn K cd7 "critical" = true) (k7 : PySem.W.keepIn K (.ref f7) = true)
    {od8 an8 : Option Addr} {sl8 : Array (Option Value)} {oc8 kV8 dc8 pm8 cd8 ct8 : Value}
    (a8 : PySem.W.nsIn K mainGlobals "days" = some (some (.ref f8))) (l8 : K.lookup f8 = some ⟨oc8, od8, .func (PySem.W.fnOf "days" "days" (defArgs s_days) (defBody s_days) (defScope s_days) .none kV8 dc8 pm8 an8 cd8 ct8), sl8⟩) (c8 : PySem.W.codeIn K cd8 "days" = true) (k8 : PySem.W.keepIn K (.ref f8) = true)
    {od9 an9 : Option Addr} {sl9 : Array (Option Value)} {oc9 kV9 dc9 pm9 cd9 ct9 : Value}
    (a9 : PySem.W.nsIn K mainGlobals "pieces_fault" = some (some (.ref f9))) (l9 : K.lookup f9 = some ⟨oc9, od9, .func (PySem.W.fnOf "pieces_fault" "pieces_fault" (defArgs s_pieces_fault) (defBody s_pieces_fault) (defScope s_pieces_fault) .none kV9 dc9 pm9 an9 cd9 ct9), sl9⟩) (c9 : PySem.W.codeIn K cd9 "pieces_fault" = true) (k9 : PySem.W.keepIn K (.ref f9) = true)
    {od10 an10 : Option Addr} {sl10 : Array (Option Value)} {oc10 kV10 dc10 pm10 cd10 ct10 : Value}
    (a10 : PySem.W.nsIn K mainGlobals "ends_of" = some (some (.ref f10))) (l10 : K.lookup f10 = some ⟨oc10, od10, .func (PySem.W.fnOf "ends_of" "ends_of" (defArgs s_ends_of) (defBody s_ends_of) (defScope s_ends_of) .none kV10 dc10 pm10 an10 cd10 ct10), sl10⟩) (c10 : PySem.W.codeIn K cd10 "ends_of" = true) (k10 : PySem.W.keepIn K (.ref f10) = true)
    {od11 an11 : Option Addr} {sl11 : Array (Option Value)} {oc11 kV11 dc11 pm11 cd11 ct11 : Value}
    (a11 : PySem.W.nsIn K mainGlobals "days_fault" = some (some (.ref f11))) (l11 : K.lookup f11 = some ⟨oc11, od11, .func (PySem.W.fnOf "days_fault" "days_fault" (defArgs s_days_fault) (defBody s_days_fault) (defScope s_days_fault) .none kV11 dc11 pm11 an11 cd11 ct11), sl11⟩) (c11 : PySem.W.codeIn K cd11 "days_fault" = true) (k11 : PySem.W.keepIn K (.ref f11) = true)
    {od12 an12 : Option Addr} {sl12 : Array (Option Value)} {oc12 kV12 dc12 pm12 cd12 ct12 : Value}
    (a12 : PySem.W.nsIn K mainGlobals "_law_state" = some (some (.ref f12))) (l12 : K.lookup f12 = some ⟨oc12, od12, .func (PySem.W.fnOf "_law_state" "_law_state" (defArgs s__law_state) (defBody s__law_state) (defScope s__law_state) .none kV12 dc12 pm12 an12 cd12 ct12), sl12⟩) (c12 : PySem.W.codeIn K cd12 "_law_state" = true) (k12 : PySem.W.keepIn K (.ref f12) = true)
    {od13 an13 : Option Addr} {sl13 : Array (Option Value)} {oc13 kV13 dc13 pm13 cd13 ct13 : Value}
    (a13 : PySem.W.nsIn K mainGlobals "_law_take" = some (some (.ref f13))) (l13 : K.lookup f13 = some ⟨oc13, od13, .func (PySem.W.fnOf "_law_take" "_law_take" (defArgs s__law_take) (defBody s__law_take) (defScope s__law_take) .none kV13 dc13 pm13 an13 cd13 ct13), sl13⟩) (c13 : PySem.W.codeIn K cd13 "_law_take" = true) (k13 : PySem.W.keepIn K (.ref f13) = true)
    {od14 an14 : Option Addr} {sl14 : Array (Option Value)} {oc14 kV14 dc14 pm14 cd14 ct14 : Value}
    (a14 : PySem.W.nsIn K mainGlobals "_law_orders" = some (some (.ref f14))) (l14 : K.lookup f14 = some ⟨oc14, od14, .func (PySem.W.fnOf "_law_orders" "_law_orders" (defArgs s__law_orders) (defBody s__law_orders) (defScope s__law_orders) .none kV14 dc14 pm14 an14 cd14 ct14), sl14⟩) (c14 : PySem.W.codeIn K cd14 "_law_orders" = true) (k14 : PySem.W.keepIn K (.ref f14) = true)
    {od15 an15 : Option Addr} {sl15 : Array (Option Value)} {oc15 kV15 dc15 pm15 cd15 ct15 : Value}
    (a15 : PySem.W.nsIn K mainGlobals "_law_pieces_fault" = some (some (.ref f15))) (l15 : K.lookup f15 = some ⟨oc15, od15, .func (PySem.W.fnOf "_law_pieces_fault" "_law_pieces_fault" (defArgs s__law_pieces_fault) (defBody s__law_pieces_fault) (defScope s__law_pieces_fault) .none kV15 dc15 pm15 an15 cd15 ct15), sl15⟩) (c15 : PySem.W.codeIn K cd15 "_law_pieces_fault" = true) (k15 : PySem.W.keepIn K (.ref f15) = true)
    {od16 an16 : Option Addr} {sl16 : Array (Option Value)} {oc16 kV16 dc16 pm16 cd16 ct16 : Value}
    (a16 : PySem.W.nsIn K mainGlobals "_law_held" = some (some (.ref f16))) (l16 : K.lookup f16 = some ⟨oc16, od16, .func (PySem.W.fnOf "_law_held" "_law_held" (defArgs s__law_held) (defBody s__law_held) (defScope s__law_held) .none kV16 dc16 pm16 an16 cd16 ct16), sl16⟩) (c16 : PySem.W.codeIn K cd16 "_law_held" = true) (k16 : PySem.W.keepIn K (.ref f16) = true)
    {od17 an17 : Option Addr} {sl17 : Array (Option Value)} {oc17 kV17 dc17 pm17 cd17 ct17 : Value}
    (a17 : PySem.W.nsIn K mainGlobals "_law_fault" = some (some (.ref f17))) (l17 : K.lookup f17 = some ⟨oc17, od17, .func (PySem.W.fnOf "_law_fault" "_law_fault" (defArgs s__law_fault) (defBody s__law_fault) (defScope s__law_fault) .none kV17 dc17 pm17 an17 cd17 ct17), sl17⟩) (c17 : PySem.W.codeIn K cd17 "_law_fault" = true) (k17 : PySem.W.keepIn K (.ref f17) = true)
    {od18 an18 : Option Addr} {sl18 : Array (Option Value)} {oc18 kV18 dc18 pm18 cd18 ct18 : Value}
    (a18 : PySem.W.nsIn K mainGlobals "_law_worked" = some (some (.ref f18))) (l18 : K.lookup f18 = some ⟨oc18, od18, .func (PySem.W.fnOf "_law_worked" "_law_worked" (defArgs s__law_worked) (defBody s__law_worked) (defScope s__law_worked) .none kV18 dc18 pm18 an18 cd18 ct18), sl18⟩) (c18 : PySem.W.codeIn K cd18 "_law_worked" = true) (k18 : PySem.W.keepIn K (.ref f18) = true)
    {od19 an19 : Option Addr} {sl19 : Array (Option Value)} {oc19 kV19 dc19 pm19 cd19 ct19 : Value}
    (a19 : PySem.W.nsIn K mainGlobals "law" = some (some (.ref f19))) (l19 : K.lookup f19 = some ⟨oc19, od19, .func (PySem.W.fnOf "law" "law" (defArgs s_law) (defBody s_law) (defScope s_law) .none kV19 dc19 pm19 an19 cd19 ct19), sl19⟩) (c19 : PySem.W.codeIn K cd19 "law" = true) (k19 : PySem.W.keepIn K (.ref f19) = true)
    (z_abs : PySem.W.nsIn K mainGlobals "abs" = some none)
    (z_all : PySem.W.nsIn K mainGlobals "all" = some none)
    (z_enumerate : PySem.W.nsIn K mainGlobals "enumerate" = some none)
    (z_int : PySem.W.nsIn K mainGlobals "int" = some none)
    (z_isinstance : PySem.W.nsIn K mainGlobals "isinstance" = some none)
    (z_len : PySem.W.nsIn K mainGlobals "len" = some none)
    (z_list : PySem.W.nsIn K mainGlobals "list" = some none)
    (z_max : PySem.W.nsIn K mainGlobals "max" = some none)
    (z_min : PySem.W.nsIn K mainGlobals "min" = some none)
    (z_range : PySem.W.nsIn K mainGlobals "range" = some none)
    (z_repr : PySem.W.nsIn K mainGlobals "repr" = some none)
    (z_set : PySem.W.nsIn K mainGlobals "set" = some none)
    (z_sorted : PySem.W.nsIn K mainGlobals "sorted" = some none)
    (z_sum : PySem.W.nsIn K mainGlobals "sum" = some none)
    (z_tuple : PySem.W.nsIn K mainGlobals "tuple" = some none) :
    ∃ fd : FuncData, (∀ (s : Shared) (v : Value), BindsTo s fd ⟨[v], []⟩ [("script", v)]) ∧ ∀ base : Heap, K.In base → base.Ns mainGlobals mg → FnG l.prog w K mg base 5 fz fd ["script"] (spLaw K) := by
  have e := hfa.symm.trans (PySem.W.mg_of X G a19)
  cases e
  exact ⟨PySem.W.fnOf "law" "law" (defArgs s_law) (defBody s_law) (defScope s_law) .none kV19 dc19 pm19 an19 cd19 ct19, fun s v => .of_eq rfl, fun base _ _ => ok_end (fa := { f_Shop___init__ := f0, fd_Shop___init__ := PySem.W.fnOf "__init__" "Shop.__init__" (defArgs s_Shop___init__) (defBody s_Shop___init__) (defScope s_Shop___init__) .none kV0 dc0 pm0 an0 cd0 ct0, F_Shop___init__ := fun_mk (st := s_Shop___init__) l0 c0 k0, b_Shop___init__ := (fun_mk (st := s_Shop___init__) l0 c0 k0).binds fun _ _ _ _ _ _ us hl => match us, hl with | [_, _], _ => rfl, M_Shop := ⟨mk0, a0, i0, kc0⟩, f_Shop_here := f1, fd_Shop_here := PySem.W.fnOf "here" "Shop.here" (defArgs s_Shop_here) (defBody s_Shop_here) (defScope s_Shop_here) .none kV1 dc1 pm1 an1 cd1 ct1, F_Shop_here := fun_mk (st := s_Shop_here) l1 c1 k1, b_Shop_here := (fun_mk (st := s_Shop_here) l1 c1 k1).binds fun _ _ _ _ _ _ us hl => match us, hl with | [_], _ => rfl, m_Shop_here := ⟨a1, i1, k1⟩, f_Shop_step := f2, fd_Shop_step := PySem.W.fnOf "step" "Shop.step" (defArgs s_Shop_step) (defBody s_Shop_step) (defScope s_Shop_step) .none kV2 dc2 pm2 an2 cd2 ct2, F_Shop_step := fun_mk (st := s_Shop_step) l2 c2 k2, b_Shop_step := (fun_mk (st := s_Shop_step) l2 c2 k2).binds fun _ _ _ _ _ _ us hl => match us, hl with | [_], _ => rfl, m_Shop_step := ⟨a2, i2, k2⟩, f_Shop_note := f3, fd_Shop_note := PySem.W.fnOf "note" "Shop.note" (defArgs s_Shop_note) (defBody s_Shop_note) (defScope s_Shop_note) .none kV3 dc3 pm3 an3 cd3 ct3, F_Shop_note := fun_mk (st := s_Shop_note) l3 c3 k3, b_Shop_note := (fun_mk (st := s_Shop_note) l3 c3 k3).binds fun _ _ _ _ _ _ us hl => match us, hl with | [_, _, _], _ => rfl, m_Shop_note := ⟨a3, i3, k3⟩, f_worked := f4, fd_worked := PySem.W.fnOf "worked" "worked" (defArgs s_worked) (defBody s_worked) (defScope s_worked) .none kV4 dc4 pm4 an4 cd4 ct4, F_worked := fun_mk (st := s_worked) l4 c4 k4, g_worked := PySem.W.mg_of X G a4, b_worked := (fun_mk (st := s_worked) l4 c4 k4).binds fun _ _ _ _ _ _ us hl => match us, hl with | [_], _ => rfl, f_late_by := f5, fd_late_by := PySem.W.fnOf "late_by" "late_by" (defArgs s_late_by) (defBody s_late_by) (defScope s_late_by) .none kV5 dc5 pm5 an5 cd5 ct5, F_late_by := fun_mk (st := s_late_by) l5 c5 k5, g_late_by := PySem.W.mg_of X G a5, b_late_by := (fun_mk (st := s_late_by) l5 c5 k5).binds fun _ _ _ _ _ _ us hl => match us, hl with | [_, _], _ => rfl, f_held_by := f6, fd_held_by := PySem.W.fnOf "held_by" "held_by" (defArgs s_held_by) (defBody s_held_by) (defScope s_held_by) .none kV6 dc6 pm6 an6 cd6 ct6, F_held_by := fun_mk (st := s_held_by) l6 c6 k6, g_held_by := PySem.W.mg_of X G a6, b_held_by := (fun_mk (st := s_held_by) l6 c6 k6).binds fun _ _ _ _ _ _ us hl => match us, hl with | [_, _], _ => rfl, f_critical := f7, fd_critical := PySem.W.fnOf "critical" "critical" (defArgs s_critical) (defBody s_critical) (defScope s_critical) .none kV7 dc7 pm7 an7 cd7 ct7, F_critical := fun_mk (st := s_critical) l7 c7 k7, g_critical := PySem.W.mg_of X G a7, b_critical := (fun_mk (st := s_critical) l7 c7 k7).binds fun _ _ _ _ _ _ us hl => match us, hl with | [_], _ => rfl, f_days := f8, fd_days := PySem.W.fnOf "days" "days" (defArgs s_days) (defBody s_days) (defScope s_days) .none kV8 dc8 pm8 an8 cd8 ct8, F_days := fun_mk (st := s_days) l8 c8 k8, g_days := PySem.W.mg_of X G a8, b_days := (fun_mk (st := s_days) l8 c8 k8).binds fun _ _ _ _ _ _ us hl => match us, hl with | [_], _ => rfl, f_pieces_fault := f9, fd_pieces_fault := PySem.W.fnOf "pieces_fault" "pieces_fault" (defArgs s_pieces_fault) (defBody s_pieces_fault) (defScope s_pieces_fault) .none kV9 dc9 pm9 an9 cd9 ct9, F_pieces_fault := fun_mk (st := s_pieces_fault) l9 c9 k9, g_pieces_fault := PySem.W.mg_of X G a9, b_pieces_fault := (fun_mk (st := s_pieces_fault) l9 c9 k9).binds fun _ _ _ _ _ _ us hl => match us, hl with | [_, _], _ => rfl, f_ends_of := f10, fd_ends_of := PySem.W.fnOf "ends_of" "ends_of" (defArgs s_ends_of) (defBody s_ends_of) (defScope s_ends_of) .none kV10 dc10 pm10 an10 cd10 ct10, F_ends_of := fun_mk (st := s_ends_of) l10 c10 k10, g_ends_of := PySem.W.mg_of X G a10, b_ends_of := (fun_mk (st := s_ends_of) l10 c10 k10).binds fun _ _ _ _ _ _ us hl => match us, hl with | [_, _], _ => rfl, f_days_fault := f11, fd_days_fault := PySem.W.fnOf "days_fault" "days_fault" (defArgs s_days_fault) (defBody s_days_fault) (defScope s_days_fault) .none kV11 dc11 pm11 an11 cd11 ct11, F_days_fault := fun_mk (st := s_days_fault) l11 c11 k11, g_days_fault := PySem.W.mg_of X G a11, b_days_fault := (fun_mk (st := s_days_fault) l11 c11 k11).binds fun _ _ _ _ _ _ us hl => match us, hl with | [_, _], _ => rfl, f__law_state := f12, fd__law_state := PySem.W.fnOf "_law_state" "_law_state" (defArgs s__law_state) (defBody s__law_state) (defScope s__law_state) .none kV12 dc12 pm12 an12 cd12 ct12, F__law_state := fun_mk (st := s__law_state) l12 c12 k12, g__law_state := PySem.W.mg_of X G a12, b__law_state := (fun_mk (st := s__law_state) l12 c12 k12).binds fun _ _ _ _ _ _ us hl => match us, hl with | [_], _ => rfl, f__law_take := f13, fd__law_take := PySem.W.fnOf "_law_take" "_law_take" (defArgs s__law_take) (defBody s__law_take) (defScope s__law_take) .none kV13 dc13 pm13 an13 cd13 ct13, F__law_take := fun_mk (st := s__law_take) l13 c13 k13, g__law_take := PySem.W.mg_of X G a13, b__law_take := (fun_mk (st := s__law_take) l13 c13 k13).binds fun _ _ _ _ _ _ us hl => match us, hl with | [_, _], _ => rfl, f__law_orders := f14, fd__law_orders := PySem.W.fnOf "_law_orders" "_law_orders" (defArgs s__law_orders) (defBody s__law_orders) (defScope s__law_orders) .none kV14 dc14 pm14 an14 cd14 ct14, F__law_orders := fun_mk (st := s__law_orders) l14 c14 k14, g__law_orders := PySem.W.mg_of X G a14, b__law_orders := (fun_mk (st := s__law_orders) l14 c14 k14).binds fun _ _ _ _ _ _ us hl => match us, hl with | [_, _], _ => rfl, f__law_pieces_fault := f15, fd__law_pieces_fault := PySem.W.fnOf "_law_pieces_fault" "_law_pieces_fault" (defArgs s__law_pieces_fault) (defBody s__law_pieces_fault) (defScope s__law_pieces_fault) .none kV15 dc15 pm15 an15 cd15 ct15, F__law_pieces_fault := fun_mk (st := s__law_pieces_fault) l15 c15 k15, g__law_pieces_fault := PySem.W.mg_of X G a15, b__law_pieces_fault := (fun_mk (st := s__law_pieces_fault) l15 c15 k15).binds fun _ _ _ _ _ _ us hl => match us, hl with | [_, _], _ => rfl, f__law_held := f16, fd__law_held := PySem.W.fnOf "_law_held" "_law_held" (defArgs s__law_held) (defBody s__law_held) (defScope s__law_held) .none kV16 dc16 pm16 an16 cd16 ct16, F__law_held := fun_mk (st := s__law_held) l16 c16 k16, g__law_held := PySem.W.mg_of X G a16, b__law_held := (fun_mk (st := s__law_held) l16 c16 k16).binds fun _ _ _ _ _ _ us hl => match us, hl with | [_, _], _ => rfl, f__law_fault := f17, fd__law_fault := PySem.W.fnOf "_law_fault" "_law_fault" (defArgs s__law_fault) (defBody s__law_fault) (defScope s__law_fault) .none kV17 dc17 pm17 an17 cd17 ct17, F__law_fault := fun_mk (st := s__law_fault) l17 c17 k17, g__law_fault := PySem.W.mg_of X G a17, b__law_fault := (fun_mk (st := s__law_fault) l17 c17 k17).binds fun _ _ _ _ _ _ us hl => match us, hl with | [_, _], _ => rfl, f__law_worked := f18, fd__law_worked := PySem.W.fnOf "_law_worked" "_law_worked" (defArgs s__law_worked) (defBody s__law_worked) (defScope s__law_worked) .none kV18 dc18 pm18 an18 cd18 ct18, F__law_worked := fun_mk (st := s__law_worked) l18 c18 k18, g__law_worked := PySem.W.mg_of X G a18, b__law_worked := (fun_mk (st := s__law_worked) l18 c18 k18).binds fun _ _ _ _ _ _ us hl => match us, hl with | [_, _], _ => rfl, f_law := fz, fd_law := PySem.W.fnOf "law" "law" (defArgs s_law) (defBody s_law) (defScope s_law) .none kV19 dc19 pm19 an19 cd19 ct19, F_law := fun_mk (st := s_law) l19 c19 k19, g_law := PySem.W.mg_of X G a19, b_law := (fun_mk (st := s_law) l19 c19 k19).binds fun _ _ _ _ _ _ us hl => match us, hl with | [_], _ => rfl, z_abs := PySem.W.mg_none_of X G z_abs, z_all := PySem.W.mg_none_of X G z_all, z_enumerate := PySem.W.mg_none_of X G z_enumerate, z_int := PySem.W.mg_none_of X G z_int, z_isinstance := PySem.W.mg_none_of X G z_isinstance, z_len := PySem.W.mg_none_of X G z_len, z_list := PySem.W.mg_none_of X G z_list, z_max := PySem.W.mg_none_of X G z_max, z_min := PySem.W.mg_none_of X G z_min, z_range := PySem.W.mg_none_of X G z_range, z_repr := PySem.W.mg_none_of X G z_repr, z_set := PySem.W.mg_none_of X G z_set, z_sorted := PySem.W.mg_none_of X G z_sorted, z_sum := PySem.W.mg_none_of X G z_sum, z_tuple := PySem.W.mg_none_of X G z_tuple, c_Shop := cc0, C_Shop := ⟨pg0, hd0, po0, sa0⟩, g_Shop := PySem.W.mg_of X G aC0, n_Shop_orders := nA0_0, n_Shop_left := nA0_1, n_Shop_ends := nA0_2, n_Shop_pieces := nA0_3, n_Shop_now := nA0_4 })⟩
end My
open PySem PySem.W PyProof.Rows
set_option maxHeartbeats 0 in
theorem PySem.Challenge.cw_cutwright_k81_whole_days_holds : PySem.Challenge.rw_cutwright_k81_whole_days.Holds := by
  w_on; o_law; k_head; (case hw => w_witness2)
  k_fill
  refine Z.walkG (l := PySem.Challenge.rw_cutwright_k81_whole_days) (n := 63) (k := 5) (x := "script") (sp := fun w => My.spLaw _) rfl (by decide) rfl ⟨rfl, by decide, by decide⟩ (fun w h Y => PySem.W.kIn_of Y) ?F (fun _ _ a ns hl _ hS => ⟨a, ns, rfl, hS, hl, fun _ => rfl⟩)
  case F =>
    intro w mg fa h KX G hmg
    refine' My.all_mk KX G hmg ?aC0 ?pg0 ?hd0 ?po0 ?sa0 ?mk0 ?kc0 ?nA0_0 ?nA0_1 ?nA0_2 ?nA0_3 ?nA0_4 ?a0 ?i0 ?l0 ?c0 ?k0 ?a1 ?i1 ?l1 ?c1 ?k1 ?a2 ?i2 ?l2 ?c2 ?k2 ?a3 ?i3 ?l3 ?c3 ?k3 ?a4 ?l4 ?c4 ?k4 ?a5 ?l5 ?c5 ?k5 ?a6 ?l6 ?c6 ?k6 ?a7 ?l7 ?c7 ?k7 ?a8 ?l8 ?c8 ?k8 ?a9 ?l9 ?c9 ?k9 ?a10 ?l10 ?c10 ?k10 ?a11 ?l11 ?c11 ?k11 ?a12 ?l12 ?c12 ?k12 ?a13 ?l13 ?c13 ?k13 ?a14 ?l14 ?c14 ?k14 ?a15 ?l15 ?c15 ?k15 ?a16 ?l16 ?c16 ?k16 ?a17 ?l17 ?c17 ?k17 ?a18 ?l18 ?c18 ?k18 ?a19 ?l19 ?c19 ?k19 ?z_abs ?z_all ?z_enumerate ?z_int ?z_isinstance ?z_len ?z_list ?z_max ?z_min ?z_range ?z_repr ?z_set ?z_sorted ?z_sum ?z_tuple
    (case aC0 => k_is)
    (case pg0 => k_is)
    (case hd0 => k_is)
    (case po0 => k_is)
    (case sa0 => k_is)
    (case mk0 => k_is)
    (case kc0 => k_is)
    (case nA0_0 => k_is)
    (case nA0_1 => k_is)
    (case nA0_2 => k_is)
    (case nA0_3 => k_is)
    (case nA0_4 => k_is)
    (case a0 => k_is)
    (case i0 => k_is)
    (case l0 => k_is)
    (case c0 => k_is)
    (case k0 => k_is)
    (case a1 => k_is)
    (case i1 => k_is)
    (case l1 => k_is)
    (case c1 => k_is)
    (case k1 => k_is)
    (case a2 => k_is)
    (case i2 => k_is)
    (case l2 => k_is)
    (case c2 => k_is)
    (case k2 => k_is)
    (case a3 => k_is)
    (case i3 => k_is)
    (case l3 => k_is)
    (case c3 => k_is)
    (case k3 => k_is)
    (case a4 => k_is)
    (case l4 => k_is)
    (case c4 => k_is)
    (case k4 => k_is)
    (case a5 => k_is)
    (case l5 => k_is)
    (case c5 => k_is)
    (case k5 => k_is)
    (case a6 => k_is)
    (case l6 => k_is)
    (case c6 => k_is)
    (case k6 => k_is)
    (case a7 => k_is)
    (case l7 => k_is)
    (case c7 => k_is)
    (case k7 => k_is)
    (case a8 => k_is)
    (case l8 => k_is)
    (case c8 => k_is)
    (case k8 => k_is)
    (case a9 => k_is)
    (case l9 => k_is)
    (case c9 => k_is)
    (case k9 => k_is)
    (case a10 => k_is)
    (case l10 => k_is)
    (case c10 => k_is)
    (case k10 => k_is)
    (case a11 => k_is)
    (case l11 => k_is)
    (case c11 => k_is)
    (case k11 => k_is)
    (case a12 => k_is)
    (case l12 => k_is)
    (case c12 => k_is)
    (case k12 => k_is)
    (case a13 => k_is)
    (case l13 => k_is)
    (case c13 => k_is)
    (case k13 => k_is)
    (case a14 => k_is)
    (case l14 => k_is)
    (case c14 => k_is)
    (case k14 => k_is)
    (case a15 => k_is)
    (case l15 => k_is)
    (case c15 => k_is)
    (case k15 => k_is)
    (case a16 => k_is)
    (case l16 => k_is)
    (case c16 => k_is)
    (case k16 => k_is)
    (case a17 => k_is)
    (case l17 => k_is)
    (case c17 => k_is)
    (case k17 => k_is)
    (case a18 => k_is)
    (case l18 => k_is)
    (case c18 => k_is)
    (case k18 => k_is)
    (case a19 => k_is)
    (case l19 => k_is)
    (case c19 => k_is)
    (case k19 => k_is)
    (case z_abs => k_is)
    (case z_all => k_is)
    (case z_enumerate => k_is)
    (case z_int => k_is)
    (case z_isinstance => k_is)
    (case z_len => k_is)
    (case z_list => k_is)
    (case z_max => k_is)
    (case z_min => k_is)
    (case z_range => k_is)
    (case z_repr => k_is)
    (case z_set => k_is)
    (case z_sorted => k_is)
    (case z_sum => k_is)
    (case z_tuple => k_is)

