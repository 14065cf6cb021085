import PyProof.Rows.All
import HandS.ForMost
import HandS.Wide
import KE.SortData
import KE.DataMinMax
import HandS.IsInst
import PyProof.ReprRoads
import HandS.Deep
import PyProof.ReprBulk
import HandS.Style
import HandS.TupLe
import HandS.TupAny
import HandS.Strs
import HandS.TupSets
import HandS.Conv
import PySem.Challenge.RW_cutwright_k50_whole_bounds
set_option Elab.async false
set_option linter.all false
set_option maxRecDepth 100000
set_option Elab.async false
set_option linter.all false
set_option maxRecDepth 100000
namespace Z
open PySem PySem.Spec PyProof.Rows L2

abbrev Fg := PySem.W.Frag
def keyD : Key → PyData
  | .inl i => .int i
  | .inr s => .str s

mutual
inductive Rep (K : Fg) (F : Hp) : V → PyData → Prop
  | non : Rep K F .non .none
  | bl (b : Bool) : Rep K F (.bl b) (.bool b)
  | int (i : Int) : Rep K F (.int i) (.int i)
  | str (x : Str) : Rep K F (.str x) (.str x)
  | lst {a : Addr} {xs : List V} {ds : List PyData} : F a = some (.lst xs) → RepAll K F xs ds → Rep K F (.ref a) (.list ds)
  | tup {a : Addr} {xs : List V} {ds : List PyData} : SqT K F a xs → RepAll K F xs ds → Rep K F (.ref a) (.tuple ds)
  | dK {a : Addr} {kvs : List (Key × V)} {ds : List PyData} : Rd F a (.dK kvs) → RepAll K F (kvs.map (·.2)) ds → Rep K F (.ref a) (.dict ((kvs.map fun p => keyD p.1).zip ds))
  | dT {a : Addr} {kvs : List (List Key × V)} {ds : List PyData} : Rd F a (.dT kvs) → RepAll K F (kvs.map (·.2)) ds → Rep K F (.ref a) (.dict ((kvs.map fun p => PyData.tuple (p.1.map keyD)).zip ds))
inductive RepAll (K : Fg) (F : Hp) : List V → List PyData → Prop
  | nil : RepAll K F [] []
  | cons {v : V} {vs : List V} {d : PyData} {ds : List PyData} : Rep K F v d → RepAll K F vs ds → RepAll K F (v :: vs) (d :: ds)
end

theorem same_rd {F F' : Hp} (s : Same F F') {a : Addr} {u : HO} (h : Rd F a u) : Rd F' a u := by
  rcases h with h | ⟨o, h⟩
  · exact .inl (s _ _ h)
  · exact .inr ⟨o, s _ _ h⟩
theorem same_sqT {K : Fg} {F F' : Hp} (s : Same F F') {a : Addr} {xs : List V} (h : SqT K F a xs) : SqT K F' a xs := by
  rcases h with h | h
  · exact .inl (same_rd s h)
  · exact .inr h
mutual
theorem Rep.mono {K : Fg} {F F' : Hp} (s : Same F F') : ∀ {v : V} {d : PyData}, Rep K F v d → Rep K F' v d
  | _, _, .non => .non
  | _, _, .bl b => .bl b
  | _, _, .int i => .int i
  | _, _, .str x => .str x
  | _, _, .lst h r => .lst (s _ _ h) (RepAll.mono s r)
  | _, _, .tup h r => .tup (same_sqT s h) (RepAll.mono s r)
  | _, _, .dK h r => .dK (same_rd s h) (RepAll.mono s r)
  | _, _, .dT h r => .dT (same_rd s h) (RepAll.mono s r)
theorem RepAll.mono {K : Fg} {F F' : Hp} (s : Same F F') : ∀ {vs : List V} {ds : List PyData}, RepAll K F vs ds → RepAll K F' vs ds
  | _, _, .nil => .nil
  | _, _, .cons h r => .cons (Rep.mono s h) (RepAll.mono s r)
end
theorem RepAll.length {K : Fg} {F : Hp} : ∀ {vs : List V} {ds : List PyData}, RepAll K F vs ds → vs.length = ds.length
  | _, _, .nil => rfl
  | _, _, .cons _ r => congrArg (· + 1) (RepAll.length r)
theorem RepAll.app {K : Fg} {F : Hp} : ∀ {vs ws : List V} {ds es : List PyData}, RepAll K F vs ds → RepAll K F ws es → RepAll K F (vs ++ ws) (ds ++ es)
  | _, _, _, _, .nil, q => q
  | _, _, _, _, .cons h r, q => .cons h (RepAll.app r q)
theorem RepAll.get {K : Fg} {F : Hp} : ∀ {vs : List V} {ds : List PyData} {i : Nat} {d : PyData}, RepAll K F vs ds → ds[i]? = some d → ∃ v, vs[i]? = some v ∧ Rep K F v d
  | _, _, _, _, .nil, e => by simp at e
  | _, _, 0, _, .cons h _, e => ⟨_, rfl, by simp at e; exact e ▸ h⟩
  | _, _, i + 1, _, .cons _ r, e => by
    obtain ⟨v, h1, h2⟩ := RepAll.get (i := i) r (by simpa using e)
    exact ⟨v, by simpa using h1, h2⟩
theorem RepAll.getv {K : Fg} {F : Hp} : ∀ {vs : List V} {ds : List PyData} {i : Nat} {v : V}, RepAll K F vs ds → vs[i]? = some v → ∃ d, ds[i]? = some d ∧ Rep K F v d
  | _, _, _, _, .nil, e => by simp at e
  | _, _, 0, _, .cons h _, e => ⟨_, rfl, by simp at e; exact e ▸ h⟩
  | _, _, i + 1, _, .cons _ r, e => by
    obtain ⟨v, h1, h2⟩ := RepAll.getv (i := i) r (by simpa using e)
    exact ⟨v, by simpa using h1, h2⟩
theorem RepAll.set {K : Fg} {F : Hp} {v : V} {d : PyData} (h : Rep K F v d) : ∀ {vs : List V} {ds : List PyData} {i : Nat}, RepAll K F vs ds → RepAll K F (vs.set i v) (ds.set i d)
  | _, _, _, .nil => .nil
  | _, _, 0, .cons _ r => .cons h r
  | _, _, i + 1, .cons q r => .cons q (RepAll.set h r)
theorem RepAll.take {K : Fg} {F : Hp} : ∀ {vs : List V} {ds : List PyData} (n : Nat), RepAll K F vs ds → RepAll K F (vs.take n) (ds.take n)
  | _, _, 0, _ => .nil
  | _, _, _ + 1, .nil => .nil
  | _, _, n + 1, .cons h r => .cons h (RepAll.take n r)
theorem RepAll.drop {K : Fg} {F : Hp} : ∀ {vs : List V} {ds : List PyData} (n : Nat), RepAll K F vs ds → RepAll K F (vs.drop n) (ds.drop n)
  | _, _, 0, r => r
  | _, _, _ + 1, .nil => .nil
  | _, _, n + 1, .cons _ r => RepAll.drop n r

/-! ### what a value of Lean stands for -/
structure Enc (τ : Type) where
  enc : τ → PyData
  inj : ∀ a b, enc a = enc b → a = b
def eI : Enc Int := ⟨.int, fun _ _ h => by injection h⟩
def eB : Enc Bool := ⟨.bool, fun _ _ h => by injection h⟩
def eS : Enc Str := ⟨.str, fun _ _ h => by injection h⟩
def eN : Enc Unit := ⟨fun _ => .none, fun _ _ _ => rfl⟩
def eD : Enc PyData := ⟨id, fun _ _ h => h⟩
theorem map_inj {α β : Type} {f : α → β} (h : ∀ a b, f a = f b → a = b) : ∀ {xs ys : List α}, xs.map f = ys.map f → xs = ys
  | [], [], _ => rfl
  | [], _ :: _, e => by simp at e
  | _ :: _, [], e => by simp at e
  | x :: xs, y :: ys, e => by
    simp only [List.map_cons, List.cons.injEq] at e
    rw [h _ _ e.1, map_inj h e.2]
def eL {τ : Type} (E : Enc τ) : Enc (List τ) := ⟨fun xs => .list (xs.map E.enc), fun _ _ h => map_inj E.inj (by injection h)⟩
def eV {τ : Type} (E : Enc τ) : Enc (List τ) := ⟨fun xs => .tuple (xs.map E.enc), fun _ _ h => map_inj E.inj (by injection h)⟩
def eT2 {α β : Type} (A : Enc α) (B : Enc β) : Enc (α × β) := ⟨fun p => .tuple [A.enc p.1, B.enc p.2], fun a b h => by
  injection h with h
  simp only [List.cons.injEq, and_true] at h
  exact Prod.ext (A.inj _ _ h.1) (B.inj _ _ h.2)⟩
def eT3 {α β γ : Type} (A : Enc α) (B : Enc β) (G : Enc γ) : Enc (α × β × γ) := ⟨fun p => .tuple [A.enc p.1, B.enc p.2.1, G.enc p.2.2], fun a b h => by
  injection h with h
  simp only [List.cons.injEq, and_true] at h
  exact Prod.ext (A.inj _ _ h.1) (Prod.ext (B.inj _ _ h.2.1) (G.inj _ _ h.2.2))⟩
def eT4 {α β γ δ : Type} (A : Enc α) (B : Enc β) (G : Enc γ) (D : Enc δ) : Enc (α × β × γ × δ) := ⟨fun p => .tuple [A.enc p.1, B.enc p.2.1, G.enc p.2.2.1, D.enc p.2.2.2], fun a b h => by
  injection h with h
  simp only [List.cons.injEq, and_true] at h
  exact Prod.ext (A.inj _ _ h.1) (Prod.ext (B.inj _ _ h.2.1) (Prod.ext (G.inj _ _ h.2.2.1) (D.inj _ _ h.2.2.2)))⟩
def eT5 {α β γ δ ε : Type} (A : Enc α) (B : Enc β) (G : Enc γ) (D : Enc δ) (E : Enc ε) : Enc (α × β × γ × δ × ε) := ⟨fun p => .tuple [A.enc p.1, B.enc p.2.1, G.enc p.2.2.1, D.enc p.2.2.2.1, E.enc p.2.2.2.2], fun a b h => by
  injection h with h
  simp only [List.cons.injEq, and_true] at h
  exact Prod.ext (A.inj _ _ h.1) (Prod.ext (B.inj _ _ h.2.1) (Prod.ext (G.inj _ _ h.2.2.1) (Prod.ext (D.inj _ _ h.2.2.2.1) (E.inj _ _ h.2.2.2.2))))⟩
def eO {τ : Type} (E : Enc τ) (hn : ∀ a, E.enc a ≠ .none) : Enc (Option τ) := ⟨fun o => match o with | none => .none | some a => E.enc a, fun a b h => by
  cases a <;> cases b
  · rfl
  · exact absurd h.symm (hn _)
  · exact absurd h (hn _)
  · exact congrArg some (E.inj _ _ h)⟩

/-! ### how a slot holds a value: shared data, or objects of its own -/
def grow (F H : Hp) (fp : List Addr) : Hp := fun a => if a ∈ fp then H a else F a
structure Stor (τ : Type) where
  rel : Fg → Hp → Hp → List Addr → V → τ → Prop
  monoF : ∀ {K F F' H fp v x}, Same F F' → rel K F H fp v x → rel K F' H fp v x
  frame : ∀ {K F H H' fp v x}, (∀ a ∈ fp, H' a = H a) → rel K F H fp v x → rel K F H' fp v x
/-- it may be made shared data -/
structure Frz {τ : Type} (S : Stor τ) (E : Enc τ) : Prop where
  frz : ∀ {K F H fp v x}, (∀ a ∈ fp, F a = none) → S.rel K F H fp v x → Rep K (grow F H fp) v (E.enc x)
/-- it owns nothing: it may be told twice -/
structure Cp {τ : Type} (S : Stor τ) : Prop where
  nil : ∀ {K F H fp v x}, S.rel K F H fp v x → fp = []
theorem grow_nil {F H : Hp} : grow F H [] = F := by funext a; simp [grow]
theorem same_grow {F H : Hp} {fp : List Addr} (h : ∀ a ∈ fp, F a = none) : Same F (grow F H fp) := fun a o e => by
  unfold grow
  by_cases m : a ∈ fp
  · rw [h a m] at e; cases e
  · rw [if_neg m]; exact e
theorem grow_sub {F H : Hp} {fp fq : List Addr} (h : ∀ a ∈ fq, F a = none) (s : ∀ a ∈ fp, a ∈ fq) : Same (grow F H fp) (grow F H fq) := fun a o e => by
  unfold grow at e ⊢
  by_cases m : a ∈ fp
  · rw [if_pos m] at e; rw [if_pos (s a m)]; exact e
  · rw [if_neg m] at e
    by_cases m' : a ∈ fq
    · rw [h a m'] at e; cases e
    · rw [if_neg m']; exact e
def it {τ : Type} (E : Enc τ) : Stor τ where
  rel := fun K F _ fp v x => fp = [] ∧ Rep K F v (E.enc x)
  monoF := fun s h => ⟨h.1, h.2.mono s⟩
  frame := fun _ h => h
theorem fz_it {τ : Type} {E : Enc τ} : Frz (it E) E := ⟨fun _ h => by obtain ⟨rfl, r⟩ := h; rw [grow_nil]; exact r⟩
theorem cp_it {τ : Type} {E : Enc τ} : Cp (it E) := ⟨fun h => h.1⟩
/-- a list of ints that stands for good (the script) -/
def scr : Stor (List Int) where
  rel := fun K F _ fp v xs => fp = [] ∧ ∃ a, v = .ref a ∧ SqL K F a (xs.map V.int)
  monoF := fun s h => by obtain ⟨e, a, e2, q⟩ := h; exact ⟨e, a, e2, s.seq q⟩
  frame := fun _ h => h
theorem cp_scr : Cp scr := ⟨fun h => h.1⟩
inductive RelAll {τ : Type} (R : List Addr → V → τ → Prop) : List Addr → List V → List τ → Prop
  | nil : RelAll R [] [] []
  | cons {fp fps v vs x xs} : R fp v x → RelAll R fps vs xs → RelAll R (fp ++ fps) (v :: vs) (x :: xs)
theorem RelAll.imp {τ : Type} {R R' : List Addr → V → τ → Prop} : ∀ {fp : List Addr} {vs : List V} {xs : List τ}, (∀ fq v x, (∀ a ∈ fq, a ∈ fp) → R fq v x → R' fq v x) → RelAll R fp vs xs → RelAll R' fp vs xs
  | _, _, _, _, .nil => .nil
  | _, _, _, f, .cons h r => .cons (f _ _ _ (fun a m => List.mem_append_left _ m) h) (RelAll.imp (fun fq v x s q => f fq v x (fun a m => List.mem_append_right _ (s a m)) q) r)
theorem RelAll.rep {τ : Type} {E : Enc τ} {K : Fg} {F : Hp} {R : List Addr → V → τ → Prop} : ∀ {fp : List Addr} {vs : List V} {xs : List τ}, (∀ fq v x, (∀ a ∈ fq, a ∈ fp) → R fq v x → Rep K F v (E.enc x)) → RelAll R fp vs xs → RepAll K F vs (xs.map E.enc)
  | _, _, _, _, .nil => .nil
  | _, _, _, f, .cons h r => .cons (f _ _ _ (fun a m => List.mem_append_left _ m) h) (RelAll.rep (fun fq v x s q => f fq v x (fun a m => List.mem_append_right _ (s a m)) q) r)
def ls {τ : Type} (S : Stor τ) : Stor (List τ) where
  rel := fun K F H fp v xs => ∃ p vs fps, v = .ref p ∧ H p = some (.lst vs) ∧ RelAll (S.rel K F H) fps vs xs ∧ fp = p :: fps
  monoF := fun s h => by
    obtain ⟨p, vs, fps, rfl, hp, r, rfl⟩ := h
    exact ⟨p, vs, fps, rfl, hp, r.imp fun _ _ _ _ q => S.monoF s q, rfl⟩
  frame := fun f h => by
    obtain ⟨p, vs, fps, rfl, hp, r, rfl⟩ := h
    exact ⟨p, vs, fps, rfl, by rw [f p List.mem_cons_self]; exact hp, r.imp fun fq _ _ s q => S.frame (fun a m => f a (List.mem_cons_of_mem _ (s a m))) q, rfl⟩
theorem fz_ls {τ : Type} {S : Stor τ} {E : Enc τ} (fz : Frz S E) : Frz (ls S) (eL E) := ⟨fun n h => by
  obtain ⟨p, vs, fps, rfl, hp, r, rfl⟩ := h
  refine .lst ?_ (r.rep fun fq v x s q => ?_)
  · show (if p ∈ p :: fps then _ else _) = _
    rw [if_pos List.mem_cons_self]; exact hp
  · exact (fz.frz (fun a m => n a (List.mem_cons_of_mem _ (s a m))) q).mono (grow_sub n fun a m => List.mem_cons_of_mem _ (s a m))⟩

inductive Slot : Type 1
  | un
  | st (w : Option V) (τ : Type) (S : Stor τ) (x : τ)
  | lk (τ : Type) (S : Stor τ) (x : τ)
abbrev Env := List Slot
abbrev Slot.sh {τ : Type} (E : Enc τ) (x : τ) : Slot := .st none τ (it E) x
abbrev Slot.ow {τ : Type} (S : Stor τ) (x : τ) : Slot := .st none τ S x

structure Ck where
  K : Fg
  B : Hp
  F0 : Hp
  He : Hp
  io : List Addr
def SlotOk (C : Ck) (F H : Hp) (o : Option V) : Slot → List Addr → Prop
  | .un, fp => fp = []
  | .st w _ S x, fp => ∃ v, o = some v ∧ S.rel C.K F H fp v x ∧ (match w with | none => ∀ a ∈ fp, C.He a = none | some v0 => v = v0 ∧ ∀ a ∈ fp, C.He a = none ∨ a ∈ C.io)
  | .lk _ S x, fp => fp = [] ∧ ∃ v fq, o = some v ∧ S.rel C.K F H fq v x ∧ ∀ a ∈ fq, C.B a ≠ none
theorem SlotOk.go {C : Ck} {F F' H H' : Hp} {o : Option V} {s : Slot} {fp : List Addr} (sF : Same F F') (hB : ∀ a, C.B a ≠ none → H' a = H a) (h : ∀ a ∈ fp, H' a = H a) (k : SlotOk C F H o s fp) : SlotOk C F' H' o s fp := by
  cases s with
  | un => exact k
  | st w τ S x => obtain ⟨v, e, r, q⟩ := k; exact ⟨v, e, S.monoF sF (S.frame h r), q⟩
  | lk τ S x => obtain ⟨e, v, fq, e2, r, q⟩ := k; exact ⟨e, v, fq, e2, S.monoF sF (S.frame (fun a m => hB a (q a m)) r), q⟩
/-- the footprints of the slots -/
structure Fps (C : Ck) (F H : Hp) (σ : List (Option V)) (env : Env) (fp : Nat → List Addr) : Prop where
  ok : ∀ i s, env[i]? = some s → SlotOk C F H (σ[i]?.join) s (fp i)
  own : ∀ i, i < env.length → ∀ a ∈ fp i, C.B a = none ∧ F a = none ∧ H a ≠ none
  sep : ∀ i j, i < env.length → j < env.length → ∀ a, a ∈ fp i → a ∈ fp j → i = j
  nd : ∀ i, i < env.length → (fp i).Nodup
structure ER (C : Ck) (F H : Hp) (σ : List (Option V)) (env : Env) : Prop where
  sB : Same C.B H
  sF : Same F H
  gr : ∀ a, F a ≠ none → C.F0 a ≠ none ∨ C.He a = none
  up : ∀ a, C.He a ≠ none → H a ≠ none
  len : σ.length = env.length
  sl : ∃ fp, Fps C F H σ env fp

section
variable {C : Ck} {F F' H H' : Hp} {σ : List (Option V)} {env : Env} {o : Option V} {s : Slot} {τ : Type} {S : Stor τ} {E : Enc τ} {x : τ} {v : V} {w : Option V} {i : Nat} {p : Addr} {u : HO}
theorem same_some {H H' : Hp} (s : Same H H') {a : Addr} (h : H a ≠ none) : H' a ≠ none := by
  cases e : H a with
  | none => exact absurd e h
  | some o => rw [s a o e]; exact fun z => by cases z
theorem same_eq {H H' : Hp} (s : Same H H') {a : Addr} (h : H a ≠ none) : H' a = H a := by
  cases e : H a with
  | none => exact absurd e h
  | some o => exact s a o e
theorem ER.look (h : ER C F H σ env) (e : env[i]? = some (.st w τ S x)) : ∃ v fp, σ[i]? = some (some v) ∧ S.rel C.K F H fp v x := by
  obtain ⟨fp, q⟩ := h.sl
  obtain ⟨v, e1, r, _⟩ := q.ok i _ e
  refine ⟨v, fp i, ?_, r⟩
  cases z : σ[i]? with
  | none => rw [z] at e1; cases e1
  | some o => rw [z] at e1; exact congrArg some e1
theorem ER.lookK (h : ER C F H σ env) (e : env[i]? = some (.lk τ S x)) : ∃ v fp, σ[i]? = some (some v) ∧ S.rel C.K F H fp v x := by
  obtain ⟨fp, q⟩ := h.sl
  obtain ⟨_, v, fq, e1, r, _⟩ := q.ok i _ e
  refine ⟨v, fq, ?_, r⟩
  cases z : σ[i]? with
  | none => rw [z] at e1; cases e1
  | some o => rw [z] at e1; exact congrArg some e1
theorem ER.rep (h : ER C F H σ env) (e : env[i]? = some (.st w τ (it E) x)) : ∃ v, σ[i]? = some (some v) ∧ Rep C.K F v (E.enc x) := by
  obtain ⟨v, fp, e1, r⟩ := h.look e
  exact ⟨v, e1, r.2⟩
theorem Fps.push {fp : Nat → List Addr} (q : Fps C F H σ env fp) {fq : List Addr} (ok : SlotOk C F H o s fq) (ow : ∀ a ∈ fq, C.B a = none ∧ F a = none ∧ H a ≠ none) (nd : fq.Nodup) (df : ∀ i, i < env.length → ∀ a ∈ fp i, a ∉ fq) :
    Fps C F H (o :: σ) (s :: env) (fun | 0 => fq | i + 1 => fp i) := by
  refine ⟨?_, ?_, ?_, ?_⟩
  · intro i s' e
    cases i with
    | zero => simp at e; subst e; exact ok
    | succ i => exact q.ok i s' (by simpa using e)
  · intro i hi a ha
    cases i with
    | zero => exact ow a ha
    | succ i => exact q.own i (by simpa using hi) a ha
  · intro i j hi hj a ha hb
    cases i with
    | zero => cases j with
      | zero => rfl
      | succ j => exact absurd ha (df j (by simpa using hj) a hb)
    | succ i => cases j with
      | zero => exact absurd hb (df i (by simpa using hi) a ha)
      | succ j => exact congrArg (· + 1) (q.sep i j (by simpa using hi) (by simpa using hj) a ha hb)
  · intro i hi
    cases i with
    | zero => exact nd
    | succ i => exact q.nd i (by simpa using hi)
theorem ER.push0 (h : ER C F H σ env) (ok : SlotOk C F H o s []) : ER C F H (o :: σ) (s :: env) := by
  obtain ⟨fp, q⟩ := h.sl
  exact ⟨h.sB, h.sF, h.gr, h.up, by simp [h.len], _, q.push ok (fun _ m => nomatch m) List.nodup_nil fun _ _ _ _ m => nomatch m⟩
theorem ER.pushSh (h : ER C F H σ env) (r : Rep C.K F v (E.enc x)) : ER C F H (some v :: σ) (.st none τ (it E) x :: env) :=
  h.push0 ⟨v, rfl, ⟨rfl, r⟩, fun _ m => nomatch m⟩
theorem ER.pushUn (h : ER C F H σ env) : ER C F H (o :: σ) (.un :: env) := h.push0 rfl
theorem ER.pop (h : ER C F H (o :: σ) (s :: env)) : ER C F H σ env := by
  obtain ⟨fp, q⟩ := h.sl
  exact ⟨h.sB, h.sF, h.gr, h.up, by simpa using h.len, fun i => fp (i + 1), fun i s e => q.ok (i + 1) s (by simpa using e), fun i hi => q.own (i + 1) (by simpa using hi),
    fun i j hi hj a ha hb => Nat.succ.inj (q.sep (i + 1) (j + 1) (by simpa using hi) (by simpa using hj) a ha hb), fun i hi => q.nd (i + 1) (by simpa using hi)⟩
theorem ER.popN : ∀ {vs : List (Option V)} {es : Env}, vs.length = es.length → ER C F H (vs ++ σ) (es ++ env) → ER C F H σ env
  | [], [], _, h => h
  | [], _ :: _, e, _ => by simp at e
  | _ :: _, [], e, _ => by simp at e
  | _ :: vs, _ :: es, e, h => ER.popN (vs := vs) (es := es) (by simpa using e) h.pop
theorem Fps.grow {fp : Nat → List Addr} (h : ER C F H σ env) (q : Fps C F H σ env fp) (sH : Same H H') (sF : Same F F') (n : ∀ a, F' a ≠ none → F a ≠ none ∨ H a = none) : Fps C F' H' σ env fp := by
  refine ⟨fun i s e => ?_, fun i hi a ha => ?_, q.sep, q.nd⟩
  · refine (q.ok i s e).go sF (fun a m => same_eq sH (same_some h.sB m)) fun a ha => same_eq sH ?_
    exact (q.own i (by obtain ⟨hi, _⟩ := List.getElem?_eq_some_iff.mp e; exact hi) a ha).2.2
  · obtain ⟨b, f, c⟩ := q.own i hi a ha
    refine ⟨b, ?_, same_some sH c⟩
    cases e : F' a with
    | none => rfl
    | some o =>
      rcases n a (by rw [e]; exact fun z => by cases z) with z | z
      · exact absurd f z
      · exact absurd z c
/-- the heap grows by objects that no slot holds; what is frozen may grow by new ones -/
theorem ER.grow (h : ER C F H σ env) (sH : Same H H') (sF : Same F F') (sF' : Same F' H') (n : ∀ a, F' a ≠ none → F a ≠ none ∨ H a = none) : ER C F' H' σ env := by
  obtain ⟨fp, q⟩ := h.sl
  refine ⟨fun a o e => sH a o (h.sB a o e), sF', fun a m => ?_, fun a m => same_some sH (h.up a m), h.len, fp, q.grow h sH sF n⟩
  rcases n a m with z | z
  · exact h.gr a z
  · refine .inr ?_
    cases e : C.He a with
    | none => rfl
    | some o => exact absurd z (h.up a (by rw [e]; exact fun z => by cases z))
theorem same_new (n : H p = none) : Same H (upd H p u) := fun b o e => by rw [upd_ne (ne_of_none e n)]; exact e
theorem ER.fnone (h : ER C F H σ env) (n : H p = none) : F p = none := by
  cases e : F p with
  | none => rfl
  | some o => rw [h.sF p o e] at n; cases n
theorem ER.bnone (h : ER C F H σ env) (n : H p = none) : C.B p = none := by
  cases e : C.B p with
  | none => rfl
  | some o => rw [h.sB p o e] at n; cases n
theorem ER.hnone (h : ER C F H σ env) (n : H p = none) : C.He p = none := by
  cases e : C.He p with
  | none => rfl
  | some o => exact absurd n (h.up p (by rw [e]; exact fun z => by cases z))
theorem ER.newF (h : ER C F H σ env) (n : H p = none) : ER C (upd F p u) (upd H p u) σ env := by
  refine h.grow (same_new n) (same_new (h.fnone n)) (fun a o e => ?_) fun a m => ?_
  · by_cases z : a = p
    · subst z; rw [upd_same] at e ⊢; exact e
    · rw [upd_ne z] at e ⊢; exact h.sF a o e
  · by_cases z : a = p
    · subst z; exact .inr n
    · rw [upd_ne z] at m; exact .inl m
theorem ER.newH (h : ER C F H σ env) (n : H p = none) : ER C F (upd H p u) σ env :=
  h.grow (same_new n) (fun _ _ e => e) (fun a o e => same_new n a o (h.sF a o e)) fun a m => .inl m
/-- a new object of one's own -/
theorem ER.newOw (h : ER C F H σ env) (n : H p = none) (r : S.rel C.K F (upd H p u) [p] v x) : ER C F (upd H p u) (some v :: σ) (.st none τ S x :: env) := by
  have h' := h.newH (u := u) n
  obtain ⟨fp, q⟩ := h.sl
  have q' := q.grow h (same_new (u := u) n) (fun _ _ e => e) fun a m => .inl m
  refine ⟨h'.sB, h'.sF, h'.gr, h'.up, by simp [h'.len], _, q'.push (fq := [p]) ⟨v, rfl, r, fun a m => ?_⟩ (fun a m => ?_) (by simp) fun i hi a ha m => ?_⟩
  · simp at m; subst m; exact h.hnone n
  · simp at m; subst m; exact ⟨h.bnone n, h.fnone n, by rw [upd_same]; exact fun z => by cases z⟩
  · simp at m; subst m; exact (q.own i hi a ha).2.2 n
/-- a slot's objects are changed by themselves -/
theorem ER.mut (h : ER C F H σ env) (e : env[i]? = some (.st w τ S x)) : ∃ v fp, σ[i]? = some (some v) ∧ S.rel C.K F H fp v x ∧ fp.Nodup ∧ (∀ a ∈ fp, C.B a = none ∧ F a = none ∧ H a ≠ none) ∧
    ∀ (τ' : Type) (S' : Stor τ') (x' : τ') (H' : Hp) (fp' : List Addr), (∀ a, a ∉ fp → H a ≠ none → H' a = H a) → (∀ a, H a ≠ none → H' a ≠ none) → S'.rel C.K F H' fp' v x' → fp'.Nodup → (∀ a ∈ fp', H' a ≠ none ∧ (a ∈ fp ∨ H a = none)) → ER C F H' σ (env.set i (.st w τ' S' x')) := by
  obtain ⟨fp, q⟩ := h.sl
  obtain ⟨hi, _⟩ := List.getElem?_eq_some_iff.mp e
  obtain ⟨v, e1, r, k⟩ := q.ok i _ e
  have e1' : σ[i]? = some (some v) := by
    cases z : σ[i]? with
    | none => rw [z] at e1; cases e1
    | some o => rw [z] at e1; exact congrArg some e1
  refine ⟨v, fp i, e1', r, q.nd i hi, q.own i hi, fun τ' S' x' H' fp' hk hs r' nd' sub => ?_⟩
  have bne : ∀ a, C.B a ≠ none → a ∉ fp i := fun a m z => m (q.own i hi a z).1
  refine ⟨fun a o m => ?_, fun a o m => ?_, h.gr, fun a m => hs a (h.up a m), by simp [h.len], fun j => if j = i then fp' else fp j, fun j s' ej => ?_, fun j hj a ha => ?_, fun j l hj hl a ha hb => ?_, fun j hj => ?_⟩
  · have m' : C.B a ≠ none := by rw [m]; exact fun z => by cases z
    rw [hk a (bne a m') (same_some h.sB m')]; exact h.sB a o m
  · have m' : F a ≠ none := by rw [m]; exact fun z => by cases z
    rw [hk a (fun z => m' (q.own i hi a z).2.1) (same_some h.sF m')]; exact h.sF a o m
  · by_cases z : j = i
    · subst z
      rw [List.getElem?_set_self hi] at ej
      cases ej
      refine ⟨v, e1, ?_, ?_⟩
      · simpa using r'
      · simp only [if_pos]
        cases w with
        | none =>
          intro a ha
          rcases (sub a ha).2 with m | m
          · exact k a m
          · exact h.hnone m
        | some v0 =>
          refine ⟨k.1, fun a ha => ?_⟩
          rcases (sub a ha).2 with m | m
          · exact k.2 a m
          · exact .inl (h.hnone m)
    · rw [List.getElem?_set_ne (fun y => z y.symm)] at ej
      have hj : j < env.length := (List.getElem?_eq_some_iff.mp ej).1
      simp only [if_neg z]
      refine (q.ok j s' ej).go (fun _ _ y => y) (fun a m => hk a (bne a m) (same_some h.sB m)) fun a ha => ?_
      exact hk a (fun y => z (q.sep j i hj hi a ha y)) (q.own j hj a ha).2.2
  · have hj' : j < env.length := by simpa using hj
    by_cases z : j = i
    · subst z
      simp only [if_pos] at ha
      obtain ⟨m1, m⟩ := sub a ha
      rcases m with m | m
      · exact ⟨(q.own j hi a m).1, (q.own j hi a m).2.1, m1⟩
      · exact ⟨h.bnone m, h.fnone m, m1⟩
    · simp only [if_neg z] at ha
      obtain ⟨b, f, c⟩ := q.own j hj' a ha
      exact ⟨b, f, hs a c⟩
  · have hj' : j < env.length := by simpa using hj
    have hl' : l < env.length := by simpa using hl
    by_cases zj : j = i
    · by_cases zl : l = i
      · rw [zj, zl]
      · simp only [if_pos zj] at ha
        simp only [if_neg zl] at hb
        rcases (sub a ha).2 with m | m
        · rw [zj]; exact q.sep i l hi hl' a m hb
        · exact absurd m (q.own l hl' a hb).2.2
    · simp only [if_neg zj] at ha
      by_cases zl : l = i
      · simp only [if_pos zl] at hb
        rcases (sub a hb).2 with m | m
        · rw [zl]; exact q.sep j i hj' hi a ha m
        · exact absurd m (q.own j hj' a ha).2.2
      · simp only [if_neg zl] at hb
        exact q.sep j l hj' hl' a ha hb
  · have hj' : j < env.length := by simpa using hj
    by_cases z : j = i
    · simp only [if_pos z]; exact nd'
    · simp only [if_neg z]; exact q.nd j hj'
/-- what a slot owns is frozen: from here on it is shared -/
theorem ER.freeze (h : ER C F H σ env) (fz : Frz S E) (e : env[i]? = some (.st none τ S x)) : ∃ F', Same F F' ∧ ER C F' H σ (env.set i (.st none τ (it E) x)) := by
  obtain ⟨fp, q⟩ := h.sl
  obtain ⟨hi, _⟩ := List.getElem?_eq_some_iff.mp e
  obtain ⟨v, e1, r, k⟩ := q.ok i _ e
  have fn : ∀ a ∈ fp i, F a = none := fun a m => (q.own i hi a m).2.1
  have sF : Same F (Z.grow F H (fp i)) := same_grow fn
  have bne : ∀ a, C.B a ≠ none → a ∉ fp i := fun a m z => m (q.own i hi a z).1
  refine ⟨Z.grow F H (fp i), sF, h.sB, fun a o m => ?_, fun a m => ?_, h.up, by simp [h.len], fun j => if j = i then [] else fp j, fun j s' ej => ?_, fun j hj a ha => ?_, fun j l hj hl a ha hb => ?_, fun j hj => ?_⟩
  · unfold Z.grow at m
    by_cases z : a ∈ fp i
    · rw [if_pos z] at m; exact m
    · rw [if_neg z] at m; exact h.sF a o m
  · unfold Z.grow at m
    by_cases z : a ∈ fp i
    · exact .inr (k a z)
    · rw [if_neg z] at m; exact h.gr a m
  · by_cases z : j = i
    · subst z
      rw [List.getElem?_set_self hi] at ej
      cases ej
      simp only [if_pos]
      exact ⟨v, e1, ⟨rfl, fz.frz fn r⟩, fun _ m => nomatch m⟩
    · rw [List.getElem?_set_ne (fun y => z y.symm)] at ej
      simp only [if_neg z]
      exact (q.ok j s' ej).go sF (fun a m => rfl) fun a ha => rfl
  · have hj' : j < env.length := by simpa using hj
    by_cases z : j = i
    · simp [if_pos z] at ha
    · simp only [if_neg z] at ha
      obtain ⟨b, f, c⟩ := q.own j hj' a ha
      refine ⟨b, ?_, c⟩
      unfold Z.grow
      rw [if_neg (fun y => z (q.sep j i hj' hi a ha y))]; exact f
  · have hj' : j < env.length := by simpa using hj
    have hl' : l < env.length := by simpa using hl
    by_cases zj : j = i
    · simp [if_pos zj] at ha
    · by_cases zl : l = i
      · simp [if_pos zl] at hb
      · simp only [if_neg zj] at ha
        simp only [if_neg zl] at hb
        exact q.sep j l hj' hl' a ha hb
  · have hj' : j < env.length := by simpa using hj
    by_cases z : j = i
    · simp [if_pos z]
    · simp only [if_neg z]; exact q.nd j hj'
/-- slots renamed: f tells where each new slot stood; each is taken once or owns nothing -/
theorem ER.perm {σ' : List (Option V)} {env' : Env} (h : ER C F H σ env) (len : σ'.length = env'.length) (f : Nat → Nat)
    (hf : ∀ j s', env'[j]? = some s' → s' = .un ∨ (env[f j]? = some s' ∧ σ'[j]?.join = σ[f j]?.join ∧ ∀ l s'', env'[l]? = some s'' → s'' ≠ .un → f l = f j → l = j)) : ER C F H σ' env' := by
  classical
  obtain ⟨fp, q⟩ := h.sl
  refine ⟨h.sB, h.sF, h.gr, h.up, len, fun j => match env'[j]? with | some .un => [] | some _ => fp (f j) | none => [], fun j s' ej => ?_, fun j hj a ha => ?_, fun j l hj hl a ha hb => ?_, fun j hj => ?_⟩
  · simp only [ej]
    rcases hf j s' ej with rfl | ⟨e, eo, _⟩
    · exact rfl
    · have := q.ok (f j) s' e
      rw [← eo] at this
      cases s' with
      | un => exact rfl
      | st _ _ _ _ => exact this
      | lk _ _ _ => exact this
  · cases ej : env'[j]? with
    | none => rw [ej] at ha; cases ha
    | some s' =>
      rcases hf j s' ej with rfl | ⟨e, eo, _⟩
      · rw [ej] at ha; cases ha
      · have ha' : a ∈ fp (f j) := by
          rw [ej] at ha
          cases s' with
          | un => cases ha
          | st _ _ _ _ => exact ha
          | lk _ _ _ => exact ha
        exact q.own (f j) (List.getElem?_eq_some_iff.mp e).1 a ha'
  · cases ej : env'[j]? with
    | none => rw [ej] at ha; cases ha
    | some s' =>
      cases el : env'[l]? with
      | none => rw [el] at hb; cases hb
      | some s'' =>
        rcases hf j s' ej with rfl | ⟨e, eo, u⟩
        · rw [ej] at ha; cases ha
        · rcases hf l s'' el with rfl | ⟨e2, eo2, u2⟩
          · rw [el] at hb; cases hb
          · have ha' : a ∈ fp (f j) := by
              rw [ej] at ha
              cases s' with
              | un => cases ha
              | st _ _ _ _ => exact ha
              | lk _ _ _ => exact ha
            have hb' : a ∈ fp (f l) := by
              rw [el] at hb
              cases s'' with
              | un => cases hb
              | st _ _ _ _ => exact hb
              | lk _ _ _ => exact hb
            have hne : s'' ≠ .un := by
              rintro rfl
              rw [el] at hb; cases hb
            exact (u l s'' el hne (q.sep _ _ (List.getElem?_eq_some_iff.mp e2).1 (List.getElem?_eq_some_iff.mp e).1 a hb' ha')).symm
  · show (match env'[j]? with | some .un => [] | some _ => fp (f j) | none => []).Nodup
    cases ej : env'[j]? with
    | none => exact List.nodup_nil
    | some s' =>
      rcases hf j s' ej with rfl | ⟨e, eo, _⟩
      · exact List.nodup_nil
      · have := q.nd (f j) (List.getElem?_eq_some_iff.mp e).1
        cases s' with
        | un => exact List.nodup_nil
        | st _ _ _ _ => exact this
        | lk _ _ _ => exact this
end
end Z

set_option Elab.async false
set_option linter.all false
set_option maxRecDepth 100000
namespace Z
open PySem PySem.Spec PyProof.Rows L2

section
variable {C : Ck} {F F' H H' : Hp} {σ σs σ' : List (Option V)} {env es env' : Env} {o : Option V} {s : Slot} {τ : Type} {S : Stor τ} {E : Enc τ} {x : τ} {v : V} {w : Option V} {i : Nat} {p : Addr} {u : HO}
theorem at_app {α : Type _} {as bs : List α} {i : Nat} (n : Nat) (h : as.length = n) : (as ++ bs)[n + i]? = bs[i]? := by
  subst h; rw [List.getElem?_append_right (Nat.le_add_right _ _), Nat.add_sub_cancel_left]
theorem ER.lookF (h : ER C F H (σs ++ σ) (es ++ env)) (hl : σs.length = es.length) (e : env[i]? = some (.st w τ S x)) : ∃ v fp, σ[i]? = some (some v) ∧ S.rel C.K F H fp v x := by
  obtain ⟨v, fp, a, b⟩ := h.look (i := es.length + i) (by rw [at_app _ rfl]; exact e)
  exact ⟨v, fp, by rw [at_app _ hl] at a; exact a, b⟩
theorem ER.lookKF (h : ER C F H (σs ++ σ) (es ++ env)) (hl : σs.length = es.length) (e : env[i]? = some (.lk τ S x)) : ∃ v fp, σ[i]? = some (some v) ∧ S.rel C.K F H fp v x := by
  obtain ⟨v, fp, a, b⟩ := h.lookK (i := es.length + i) (by rw [at_app _ rfl]; exact e)
  exact ⟨v, fp, by rw [at_app _ hl] at a; exact a, b⟩
theorem ER.repF (h : ER C F H (σs ++ σ) (es ++ env)) (hl : σs.length = es.length) (e : env[i]? = some (.st w τ (it E) x)) : ∃ v, σ[i]? = some (some v) ∧ Rep C.K F v (E.enc x) := by
  obtain ⟨v, fp, a, b⟩ := h.lookF hl e
  exact ⟨v, a, b.2⟩
theorem ER.lenF (h : ER C F H (σs ++ σ) (es ++ env)) (hl : σs.length = es.length) : σ.length = env.length := by
  have := h.len; simp [hl] at this; exact this
/-- the top of the stack goes to slot i -/
theorem ER.asg (h : ER C F H (o :: (σs ++ σ)) (s :: (es ++ env))) (hl : σs.length = es.length) (hi : i < env.length) : ER C F H (σs ++ σ.set i o) (es ++ env.set i s) := by
  have hls : σ.length = env.length := h.pop.lenF hl
  refine h.perm (by simp [hl, hls]) (fun j => if j = es.length + i then 0 else j + 1) fun j s' ej => .inr ?_
  by_cases z : j = es.length + i
  · subst z
    rw [at_app _ rfl, List.getElem?_set_self hi] at ej
    cases ej
    refine ⟨by simp, ?_, fun l s'' _ _ q => ?_⟩
    · simp only [if_pos]
      rw [at_app _ hl, List.getElem?_set_self (by omega)]
      rfl
    · by_cases y : l = es.length + i
      · exact y
      · simp only [if_neg y, if_pos] at q; omega
  · refine ⟨?_, ?_, fun l s'' _ _ q => ?_⟩
    · simp only [if_neg z, List.getElem?_cons_succ]
      by_cases a : j < es.length
      · rw [List.getElem?_append_left a] at ej ⊢; exact ej
      · obtain ⟨m, rfl⟩ : ∃ m, j = es.length + m := ⟨j - es.length, by omega⟩
        rw [at_app _ rfl, List.getElem?_set_ne (by omega)] at ej
        rw [at_app _ rfl]; exact ej
    · simp only [if_neg z, List.getElem?_cons_succ]
      by_cases a : j < es.length
      · rw [List.getElem?_append_left (by omega), List.getElem?_append_left (by omega)]
      · obtain ⟨m, rfl⟩ : ∃ m, j = es.length + m := ⟨j - es.length, by omega⟩
        rw [at_app _ hl, at_app _ hl, List.getElem?_set_ne (by omega)]
    · simp only [if_neg z] at q
      by_cases y : l = es.length + i
      · simp only [if_pos y] at q; omega
      · simp only [if_neg y] at q; omega
/-- weaker slots -/
inductive Sub : Env → Env → Prop
  | nil : Sub [] []
  | keep {s : Slot} {a b : Env} : Sub a b → Sub (s :: a) (s :: b)
  | drop {s : Slot} {a b : Env} : Sub a b → Sub (s :: a) (.un :: b)
theorem Sub.get : ∀ {a b : Env}, Sub a b → ∀ (j : Nat) (s' : Slot), b[j]? = some s' → s' = Slot.un ∨ a[j]? = some s'
  | _, _, .nil, j, s', e => by simp at e
  | _, _, .keep r, 0, s', e => .inr e
  | _, _, .keep r, j + 1, s', e => by simpa using r.get j s' (by simpa using e)
  | _, _, .drop r, 0, s', e => .inl (by simp at e; exact e.symm)
  | _, _, .drop r, j + 1, s', e => by simpa using r.get j s' (by simpa using e)
theorem Sub.len : ∀ {a b : Env}, Sub a b → a.length = b.length
  | _, _, .nil => rfl
  | _, _, .keep r => congrArg (· + 1) r.len
  | _, _, .drop r => congrArg (· + 1) r.len
theorem Sub.refl : ∀ (a : Env), Sub a a
  | [] => .nil
  | _ :: a => .keep (Sub.refl a)
theorem Sub.pre : ∀ (es : Env) {a b : Env}, Sub a b → Sub (es ++ a) (es ++ b)
  | [], _, _, r => r
  | _ :: es, _, _, r => .keep (Sub.pre es r)
theorem ER.sub (h : ER C F H σ env) (q : Sub env env') : ER C F H σ env' :=
  h.perm (by rw [h.len, q.len]) id fun j s' e => (q.get j s' e).imp id fun y => ⟨y, rfl, fun l _ _ _ z => z⟩
theorem ER.subF (h : ER C F H (σs ++ σ) (es ++ env)) (q : Sub env env') : ER C F H (σs ++ σ) (es ++ env') := h.sub (q.pre es)
theorem rot_key {α : Type _} (a : α) (at_ as : List α) {n : Nat} (hlen : at_.length = n) (j : Nat) : (a :: (at_ ++ as))[j]? = (at_ ++ a :: as)[if j = 0 then n else if j ≤ n then j - 1 else j]? := by
  by_cases z : j = 0
  · subst z
    simp only [if_pos, List.getElem?_cons_zero]
    rw [List.getElem?_append_right (by omega), hlen, Nat.sub_self]; rfl
  · obtain ⟨m, rfl⟩ : ∃ m, j = m + 1 := ⟨j - 1, by omega⟩
    simp only [if_neg z, List.getElem?_cons_succ]
    by_cases y : m + 1 ≤ n
    · rw [if_pos y, Nat.add_sub_cancel, List.getElem?_append_left (by omega), List.getElem?_append_left (by omega)]
    · rw [if_neg y, List.getElem?_append_right (by omega), List.getElem?_append_right (by omega)]
      obtain ⟨q, hq⟩ : ∃ q, m = n + q := ⟨m - n, by omega⟩
      subst hq
      rw [hlen, show n + q + 1 - n = q + 1 by omega, List.getElem?_cons_succ, show n + q - n = q by omega]
/-- a pushed value stands under others: it comes to the top -/
theorem ER.rot {σt : List (Option V)} {et : Env} (h : ER C F H (σt ++ o :: σ) (et ++ s :: env)) (hl : σt.length = et.length) : ER C F H (o :: (σt ++ σ)) (s :: (et ++ env)) := by
  have hls : σ.length = env.length := by have := h.len; simp [hl] at this; omega
  refine h.perm (by simp [hl, hls]) (fun j => if j = 0 then et.length else if j ≤ et.length then j - 1 else j) fun j s' ej => .inr ?_
  refine ⟨?_, ?_, fun l s'' _ _ q => ?_⟩
  · rw [← rot_key s et env rfl]; exact ej
  · rw [rot_key o σt σ hl]
  · by_cases z : j = 0
    · subst z
      by_cases y : l = 0
      · exact y
      · simp only [if_neg y, if_pos] at q
        by_cases a : l ≤ et.length
        · rw [if_pos a] at q; omega
        · rw [if_neg a] at q; omega
    · by_cases y : l = 0
      · subst y
        simp only [if_neg z, if_pos] at q
        by_cases a : j ≤ et.length
        · rw [if_pos a] at q; omega
        · rw [if_neg a] at q; omega
      · simp only [if_neg z, if_neg y] at q
        by_cases a : j ≤ et.length
        · rw [if_pos a] at q
          by_cases b : l ≤ et.length
          · rw [if_pos b] at q; omega
          · rw [if_neg b] at q; omega
        · rw [if_neg a] at q
          by_cases b : l ≤ et.length
          · rw [if_pos b] at q; omega
          · rw [if_neg b] at q; omega
theorem unrot_key {α : Type _} (a : α) (at_ as : List α) {n : Nat} (hlen : at_.length = n) (j : Nat) : (at_ ++ a :: as)[j]? = (a :: (at_ ++ as))[if j < n then j + 1 else if j = n then 0 else j]? := by
  by_cases z : j < n
  · rw [if_pos z, List.getElem?_cons_succ, List.getElem?_append_left (by omega), List.getElem?_append_left (by omega)]
  · rw [if_neg z]
    by_cases y : j = n
    · rw [if_pos y, List.getElem?_append_right (by omega), hlen, y, Nat.sub_self]; rfl
    · rw [if_neg y, List.getElem?_append_right (by omega)]
      obtain ⟨q, rfl⟩ : ∃ q, j = n + 1 + q := ⟨j - n - 1, by omega⟩
      rw [hlen, show n + 1 + q - n = q + 1 by omega, List.getElem?_cons_succ, show n + 1 + q = (n + q) + 1 by omega, List.getElem?_cons_succ, List.getElem?_append_right (by omega), hlen, Nat.add_sub_cancel_left]
/-- the top goes below others -/
theorem ER.unrot {σt : List (Option V)} {et : Env} (h : ER C F H (o :: (σt ++ σ)) (s :: (et ++ env))) (hl : σt.length = et.length) : ER C F H (σt ++ o :: σ) (et ++ s :: env) := by
  have hls : σ.length = env.length := by have := h.len; simp [hl] at this; omega
  refine h.perm (by simp [hl, hls]) (fun j => if j < et.length then j + 1 else if j = et.length then 0 else j) fun j s' ej => .inr ?_
  refine ⟨?_, ?_, fun l s'' _ _ q => ?_⟩
  · rw [← unrot_key s et env rfl]; exact ej
  · rw [unrot_key o σt σ hl]
  · by_cases z : j < et.length
    · simp only [if_pos z] at q
      by_cases y : l < et.length
      · simp only [if_pos y] at q; omega
      · simp only [if_neg y] at q
        by_cases x : l = et.length
        · simp only [if_pos x] at q; omega
        · simp only [if_neg x] at q; omega
    · simp only [if_neg z] at q
      by_cases y : l < et.length
      · simp only [if_pos y] at q
        by_cases x : j = et.length
        · simp only [if_pos x] at q; omega
        · simp only [if_neg x] at q; omega
      · simp only [if_neg y] at q
        by_cases x : j = et.length
        · simp only [if_pos x] at q
          by_cases w : l = et.length
          · omega
          · simp only [if_neg w] at q; omega
        · simp only [if_neg x] at q
          by_cases w : l = et.length
          · simp only [if_pos w] at q; omega
          · simp only [if_neg w] at q; omega
end

/-! ### the judgements -/
section
variable (X : Cx) {Ω : Type}
/-- the weakest readings -/
def tE (e : Expr) : TE := fun σ H Q => ∀ pins s, Inv X pins σ H s → wpAny (model X.prog X.w) X.A (eval e X.env) (EP X pins σ Q) X.xe s
def tT (e : Expr) : TT := fun σ H Q => ∀ pins s, Inv X pins σ H s → wpAny (model X.prog X.w) X.A (isTrue e X.env (eval e X.env)) (TP X pins σ Q) X.xe s
def tAs (es : List Expr) : TA := fun σ H Q => ∀ pos pins s, Inv X pins σ H s → wpAny (model X.prog X.w) X.A (spliced (backTo pos (starEach es X.env))) (AP X pins σ Q) X.xe s
def tSs (st : List Stmt) : TS := fun D σ H => ∀ pins s, Inv X pins σ H s → wpAny (model X.prog X.w) X.A (execs st X.env) (SP X pins D) X.xe s
def tS1 (st : Stmt) : TS := fun D σ H => ∀ pins s, Inv X pins σ H s → wpAny (model X.prog X.w) X.A (exec st X.env) (SP X pins D) X.xe s
theorem peC {e : Expr} : PE X e (tE X e) := ⟨fun pins s σ H Q I h => h pins s I⟩
theorem ptC {e : Expr} : PT X e (tT X e) := ⟨fun pins s σ H Q I h => h pins s I⟩
theorem paC {es : List Expr} : PA X es (tAs X es) := ⟨fun pos pins s σ H Q I h => h pos pins s I⟩
theorem pssC {st : List Stmt} : PSs X st (tSs X st) := ⟨fun pins s σ H D I h => h pins s I⟩
theorem psC {st : Stmt} : PS X st (tS1 X st) := ⟨fun pins s σ H D I h => h pins s I⟩
theorem tE.of {e : Expr} {t : TE} {σ : L2.St} {H : Hp} {Q : VK} (h : PE X e t) (q : t σ H Q) : tE X e σ H Q := fun pins s I => h.run pins s σ H Q I q
theorem tT.of {e : Expr} {t : TT} {σ : L2.St} {H : Hp} {Q : Bool → Hp → Prop} (h : PT X e t) (q : t σ H Q) : tT X e σ H Q := fun pins s I => h.run pins s σ H Q I q
theorem tAs.of {es : List Expr} {t : TA} {σ : L2.St} {H : Hp} {Q : List V → Hp → Prop} (h : PA X es t) (q : t σ H Q) : tAs X es σ H Q := fun pos pins s I => h.run pos pins s σ H Q I q
theorem tSs.of {st : List Stmt} {t : TS} {σ : L2.St} {H : Hp} {D : Ends} (h : PSs X st t) (q : t D σ H) : tSs X st D σ H := fun pins s I => h.run pins s σ H D I q
theorem tS1.of {st : Stmt} {t : TS} {σ : L2.St} {H : Hp} {D : Ends} (h : PS X st t) (q : t D σ H) : tS1 X st D σ H := fun pins s I => h.run pins s σ H D I q

def LX (env : Env) (e : Expr) {τ : Type} (S : Stor τ) {P : Type} (env' : P → Env) (f : (τ → P → Option Ω) → Option Ω) : Prop :=
  ∀ (C : Ck) (F H : Hp) (σs : List (Option V)) (es : Env) (σ : List (Option V)) (k : τ → P → Option Ω) (ω : Ω) (Q : VK), C.K = X.K → σs.length = es.length → ER C F H (σs ++ σ) (es ++ env) → f k = some ω →
    (∀ a p v F' H', k a p = some ω → ER C F' H' (some v :: (σs ++ σ)) (.st none τ S a :: (es ++ env' p)) → Q v H') → tE X e σ H Q
def LT (env : Env) (e : Expr) {P : Type} (env' : P → Env) (f : (Bool → P → Option Ω) → Option Ω) : Prop :=
  ∀ (C : Ck) (F H : Hp) (σs : List (Option V)) (es : Env) (σ : List (Option V)) (k : Bool → P → Option Ω) (ω : Ω) (Q : Bool → Hp → Prop), C.K = X.K → σs.length = es.length → ER C F H (σs ++ σ) (es ++ env) → f k = some ω →
    (∀ a p F' H', k a p = some ω → ER C F' H' (σs ++ σ) (es ++ env' p) → Q a H') → tT X e σ H Q
/-- an operand: what it tells may be read as long as the slots stand -/
def LO (G : Env → Prop) (env : Env) (e : Expr) {τ : Type} (S : Stor τ) {P : Type} (env' : P → Env) (f : (τ → P → Option Ω) → Option Ω) : Prop :=
  ∀ (C : Ck) (F H : Hp) (σs : List (Option V)) (es : Env) (σ : List (Option V)) (k : τ → P → Option Ω) (ω : Ω) (Q : VK), C.K = X.K → σs.length = es.length → ER C F H (σs ++ σ) (es ++ env) → f k = some ω →
    (∀ a p v F' H' (σx : List (Option V)) (ex : Env), σx.length = ex.length → k a p = some ω → ER C F' H' (σx ++ (σs ++ σ)) (ex ++ (es ++ env' p)) →
      (∀ (F'' H'' : Hp) (σ2 : List (Option V)) (e2 env2 : Env), G env2 → σ2.length = e2.length → ER C F'' H'' (σ2 ++ (σx ++ (σs ++ σ))) (e2 ++ (ex ++ (es ++ env2))) → ∃ fp, S.rel C.K F'' H'' fp v a) → Q v H') → tE X e σ H Q
/-- arguments, from the left -/
def LA (env : Env) (xs : List Expr) {A : Type} (sl : A → Env) {P : Type} (env' : P → Env) (f : (A → P → Option Ω) → Option Ω) : Prop :=
  ∀ (C : Ck) (F H : Hp) (σs : List (Option V)) (es : Env) (σ : List (Option V)) (k : A → P → Option Ω) (ω : Ω) (Q : List V → Hp → Prop), C.K = X.K → σs.length = es.length → ER C F H (σs ++ σ) (es ++ env) → f k = some ω →
    (∀ a p (vs : List V) F' H', k a p = some ω → (vs.map some).length = (sl a).length → ER C F' H' (vs.map some ++ (σs ++ σ)) (sl a ++ (es ++ env' p)) → Q vs H') → tAs X xs σ H Q
/-- a comparison: value and test -/
def LC (env : Env) (op : CmpOp) (a b : Expr) {P : Type} (env' : P → Env) (f : (Bool → P → Option Ω) → Option Ω) : Prop :=
  ∃ r : R2, OpR X (compareOp op) r ∧ ∀ (C : Ck) (F H : Hp) (σs : List (Option V)) (es : Env) (σ : List (Option V)) (k : Bool → P → Option Ω) (ω : Ω) (Q : VK), C.K = X.K → σs.length = es.length → ER C F H (σs ++ σ) (es ++ env) → f k = some ω →
    (∀ c p F' H', k c p = some ω → ER C F' H' (σs ++ σ) (es ++ env' p) → Q (.bl c) H') → tOp r (tE X a) (tE X b) σ H Q
end

/-- a label: where a break or a continue goes -/
structure Lp (Ω : Type) where
  J : Type
  env : J → Env
  k : J → Option Ω
def noLp (Ω : Type) : Lp Ω := ⟨Empty, fun e => e.elim, fun e => e.elim⟩
section
variable (X : Cx)
def LB {R I Ω : Type} (S : Stor R) (envR : I → Env) (kr : R → I → Option Ω) (bk ct : Lp Ω) (env : Env) (sts : List Stmt) {J : Type} (envJ : J → Env) (f : (J → Option Ω) → Option Ω) : Prop :=
  ∀ (C : Ck) (F H : Hp) (σs : List (Option V)) (es : Env) (σ : List (Option V)) (kn : J → Option Ω) (ω : Ω) (D : Ends), C.K = X.K → σs.length = es.length → ER C F H (σs ++ σ) (es ++ env) → f kn = some ω →
    (∀ j F' H' σ', kn j = some ω → ER C F' H' (σs ++ σ') (es ++ envJ j) → D.nx σ' H') →
    (∀ j F' H' σ', bk.k j = some ω → ER C F' H' (σs ++ σ') (es ++ bk.env j) → D.bk σ' H') →
    (∀ j F' H' σ', ct.k j = some ω → ER C F' H' (σs ++ σ') (es ++ ct.env j) → D.ct σ' H') →
    (∀ a i v F' H' σ', kr a i = some ω → ER C F' H' (some v :: (σs ++ σ')) (.st none R S a :: (es ++ envR i)) → D.rt v H') → tSs X sts D σ H
end

/-! ### names, constants -/
section
variable {X : Cx} {Ω : Type} {env env1 : Env} {τ : Type} {S : Stor τ} {E : Enc τ} {x : τ} {w : Option V} {i : Nat} {nm : Str} {pos : Pos} {e a b : Expr} {P P1 P2 : Type} {f : (τ → P → Option Ω) → Option Ω} {env' : P → Env}
theorem lx_var (i : Nat) (cp : Cp S) (e : env[i]? = some (.st w τ S x)) (hN : X.N[i]? = some nm := by rfl) (hv : Vis X.env.scope nm := by first | exact Or.inl rfl | exact Or.inr (Or.inl rfl) | exact Or.inr (Or.inr rfl)) (hd : (nm == ("__debug__" : Str)) = false := by decide) (hcd : (nm == ("__classdict__" : Str)) = false := by decide) :
    LX X env (.Name nm pos) S (fun _ : Unit => env) (fun (k : τ → Unit → Option Ω) => k x ()) := by
  refine fun C F H σs es σ k ω Q hK hl h hk q => tE.of X (pe_var hN hv hd hcd) ?_
  obtain ⟨v, fp, e1, r⟩ := h.lookF hl e
  have z := cp.nil r
  subst z
  exact ⟨v, e1, q x () v F H hk (h.push0 ⟨v, rfl, r, fun _ m => nomatch m⟩)⟩
/-- an own object is read and shared from here on -/
theorem lx_frz (i : Nat) (fz : Frz S E) (e : env[i]? = some (.st none τ S x)) (hN : X.N[i]? = some nm := by rfl) (hv : Vis X.env.scope nm := by first | exact Or.inl rfl | exact Or.inr (Or.inl rfl) | exact Or.inr (Or.inr rfl)) (hd : (nm == ("__debug__" : Str)) = false := by decide) (hcd : (nm == ("__classdict__" : Str)) = false := by decide) :
    LX X env (.Name nm pos) (it E) (fun _ : Unit => env.set i (.st none τ (it E) x)) (fun (k : τ → Unit → Option Ω) => k x ()) := by
  refine fun C F H σs es σ k ω Q hK hl h hk q => tE.of X (pe_var hN hv hd hcd) ?_
  obtain ⟨F', sF, h'⟩ := h.freeze (i := es.length + i) fz (by rw [at_app _ rfl]; exact e)
  have h2 : ER C F' H (σs ++ σ) (es ++ env.set i (.st none τ (it E) x)) := by
    rw [List.set_append_right _ _ (Nat.le_add_right _ _), Nat.add_sub_cancel_left] at h'
    exact h'
  obtain ⟨v, e1, r⟩ := h2.repF (i := i) (E := E) (x := x) (w := none) hl (by rw [List.getElem?_set_self (List.getElem?_eq_some_iff.mp e).1])
  exact ⟨v, e1, q x () v F' H hk (h2.pushSh r)⟩
/-- an own object is handed on -/
theorem lx_move (i : Nat) (e : env[i]? = some (.st none τ S x)) (hN : X.N[i]? = some nm := by rfl) (hv : Vis X.env.scope nm := by first | exact Or.inl rfl | exact Or.inr (Or.inl rfl) | exact Or.inr (Or.inr rfl)) (hd : (nm == ("__debug__" : Str)) = false := by decide) (hcd : (nm == ("__classdict__" : Str)) = false := by decide) :
    LX X env (.Name nm pos) S (fun _ : Unit => env.set i .un) (fun (k : τ → Unit → Option Ω) => k x ()) := by
  refine fun C F H σs es σ k ω Q hK hl h hk q => tE.of X (pe_var hN hv hd hcd) ?_
  obtain ⟨v, fp, e1, r⟩ := h.lookF hl e
  refine ⟨v, e1, q x () v F H hk ?_⟩
  have hi := (List.getElem?_eq_some_iff.mp e).1
  refine h.perm (by have := h.len; simp at this ⊢; omega) (fun j => if j = 0 then es.length + i else j - 1) fun j s' ej => ?_
  cases j with
  | zero =>
    simp at ej; subst ej
    refine .inr ⟨?_, ?_, fun l s'' el hne hq => ?_⟩
    · simp only [if_pos]; rw [at_app _ rfl]; exact e
    · simp only [if_pos]; rw [at_app _ hl, e1]; rfl
    · by_cases z : l = 0
      · exact z
      · exfalso
        simp only [if_neg z, if_pos] at hq
        obtain ⟨m, rfl⟩ : ∃ m, l = m + 1 := ⟨l - 1, by omega⟩
        have hm : m = es.length + i := by omega
        subst hm
        rw [List.getElem?_cons_succ, at_app _ rfl, List.getElem?_set_self hi] at el
        exact hne (Option.some.inj el).symm
  | succ j =>
    rw [List.getElem?_cons_succ] at ej
    by_cases z : j = es.length + i
    · subst z
      rw [at_app _ rfl, List.getElem?_set_self hi] at ej
      exact .inl (Option.some.inj ej).symm
    · refine .inr ⟨?_, by simp, fun l s'' el hne hq => ?_⟩
      · simp only [Nat.add_one_sub_one, if_neg (Nat.succ_ne_zero j)]
        by_cases y : j < es.length
        · rw [List.getElem?_append_left y] at ej ⊢; exact ej
        · obtain ⟨m, rfl⟩ : ∃ m, j = es.length + m := ⟨j - es.length, by omega⟩
          rw [at_app _ rfl, List.getElem?_set_ne (by omega)] at ej
          rw [at_app _ rfl]; exact ej
      · by_cases y : l = 0
        · subst y; simp only [if_pos, if_neg (Nat.succ_ne_zero j)] at hq; omega
        · simp only [if_neg y, if_neg (Nat.succ_ne_zero j)] at hq; omega
theorem lx_c {v : V} (hp : PE X e (tC v)) (r : ∀ F, Rep X.K F v (E.enc x)) : LX X env e (it E) (fun _ : Unit => env) (fun (k : τ → Unit → Option Ω) => k x ()) :=
  fun C F H σs es σ k ω Q hK hl h hk q => tE.of X hp (q x () v F H hk (h.pushSh (by rw [hK]; exact r F)))
theorem lx_int {n : Int} {j : Nat} : LX X env (.Constant (.int n) j pos) (it eI) (fun _ : Unit => env) (fun (k : Int → Unit → Option Ω) => k n ()) := lx_c pe_int fun _ => .int n
theorem lx_bl {c : Bool} {j : Nat} : LX X env (.Constant (.bool c) j pos) (it eB) (fun _ : Unit => env) (fun (k : Bool → Unit → Option Ω) => k c ()) := lx_c pe_bl fun _ => .bl c
theorem lx_str {c : Str} {j : Nat} : LX X env (.Constant (.str c) j pos) (it eS) (fun _ : Unit => env) (fun (k : Str → Unit → Option Ω) => k c ()) := lx_c pe_str fun _ => .str c
theorem lx_non {j : Nat} : LX X env (.Constant .none j pos) (it eN) (fun _ : Unit => env) (fun (k : Unit → Unit → Option Ω) => k () ()) := lx_c pe_non fun _ => .non
/-- what is told may be taken for another kind of the same data -/
theorem lx_as {τ' : Type} {E' : Enc τ'} (h : LX X env e (it E) env' f) (g : τ → τ') (hg : ∀ a, E'.enc (g a) = E.enc a) : LX X env e (it E') env' (fun (k : τ' → P → Option Ω) => f fun a p => k (g a) p) := by
  refine fun C F H σs es σ k ω Q hK hl hr hk q => h C F H σs es σ _ ω Q hK hl hr hk fun a p v F' H' hka h' => q (g a) p v F' H' hka ?_
  obtain ⟨v', fp, e1, r⟩ := h'.look (i := 0) rfl
  simp at e1; subst e1
  exact h'.pop.pushSh (by rw [hg]; exact r.2)
/-- .. a cast: where the data are of another kind the walk is not followed -/
theorem lx_cast {τ' : Type} {E' : Enc τ'} (h : LX X env e (it E) env' f) (g : τ → Option τ') (hg : ∀ a b, g a = some b → E'.enc b = E.enc a) : LX X env e (it E') env' (fun (k : τ' → P → Option Ω) => f fun a p => (g a).bind fun b => k b p) := by
  refine fun C F H σs es σ k ω Q hK hl hr hk q => h C F H σs es σ _ ω Q hK hl hr hk fun a p v F' H' hka h' => ?_
  cases z : g a with
  | none => rw [z] at hka; cases hka
  | some b =>
    rw [z] at hka
    obtain ⟨v', fp, e1, r⟩ := h'.look (i := 0) rfl
    simp at e1; subst e1
    exact q b p v F' H' hka (h'.pop.pushSh (by rw [hg a b z]; exact r.2))
/-- own objects that were made are shared -/
theorem lx_sh (fz : Frz S E) (h : LX X env e S env' f) : LX X env e (it E) env' f := by
  refine fun C F H σs es σ k ω Q hK hl hr hk q => h C F H σs es σ k ω Q hK hl hr hk fun a p v F' H' hka h' => ?_
  obtain ⟨F2, sF, h2⟩ := h'.freeze (i := 0) fz rfl
  exact q a p v F2 H' hka h2
/-- the operands -/
theorem lo_of (h : LX X env e S env' f) : LO X (fun _ => True) env e S env' f := by
  refine fun C F H σs es σ k ω Q hK hl hr hk q => h C F H σs es σ k ω Q hK hl hr hk fun a p v F' H' hka h' => ?_
  refine q a p v F' H' [some v] [.st none τ S a] rfl hka h' fun F'' H'' σ2 e2 env2 _ hl2 h2 => ?_
  obtain ⟨v', fp, e1, r⟩ := h2.look (i := e2.length + 0) (by rw [at_app _ rfl]; rfl)
  rw [at_app _ hl2] at e1
  simp at e1; subst e1
  exact ⟨fp, r⟩
theorem lo_var (i : Nat) (e : env[i]? = some (.st w τ S x)) (hN : X.N[i]? = some nm := by rfl) (hv : Vis X.env.scope nm := by first | exact Or.inl rfl | exact Or.inr (Or.inl rfl) | exact Or.inr (Or.inr rfl)) (hd : (nm == ("__debug__" : Str)) = false := by decide) (hcd : (nm == ("__classdict__" : Str)) = false := by decide) :
    LO X (fun en => en[i]? = some (.st w τ S x)) env (.Name nm pos) S (fun _ : Unit => env) (fun (k : τ → Unit → Option Ω) => k x ()) := by
  refine fun C F H σs es σ k ω Q hK hl h hk q => tE.of X (pe_var hN hv hd hcd) ?_
  obtain ⟨v, fp, e1, r⟩ := h.lookF hl e
  refine ⟨v, e1, q x () v F H [] [] rfl hk h fun F'' H'' σ2 e2 env2 hg hl2 h2 => ?_⟩
  have h3 : ER C F'' H'' ((σ2 ++ σs) ++ σ) ((e2 ++ es) ++ env2) := by simpa [List.append_assoc] using h2
  obtain ⟨v', fp', e1', r'⟩ := h3.lookF (i := i) (τ := τ) (S := S) (x := x) (w := w) (by simp [hl, hl2]) hg
  rw [e1] at e1'; cases e1'
  exact ⟨fp', r'⟩
theorem lo_lk (i : Nat) (e : env[i]? = some (.lk τ S x)) (hN : X.N[i]? = some nm := by rfl) (hv : Vis X.env.scope nm := by first | exact Or.inl rfl | exact Or.inr (Or.inl rfl) | exact Or.inr (Or.inr rfl)) (hd : (nm == ("__debug__" : Str)) = false := by decide) (hcd : (nm == ("__classdict__" : Str)) = false := by decide) :
    LO X (fun en => en[i]? = some (.lk τ S x)) env (.Name nm pos) S (fun _ : Unit => env) (fun (k : τ → Unit → Option Ω) => k x ()) := by
  refine fun C F H σs es σ k ω Q hK hl h hk q => tE.of X (pe_var hN hv hd hcd) ?_
  obtain ⟨v, fp, e1, r⟩ := h.lookKF hl e
  refine ⟨v, e1, q x () v F H [] [] rfl hk h fun F'' H'' σ2 e2 env2 hg hl2 h2 => ?_⟩
  have h3 : ER C F'' H'' ((σ2 ++ σs) ++ σ) ((e2 ++ es) ++ env2) := by simpa [List.append_assoc] using h2
  obtain ⟨v', fp', e1', r'⟩ := h3.lookKF (i := i) (τ := τ) (S := S) (x := x) (by simp [hl, hl2]) hg
  rw [e1] at e1'; cases e1'
  exact ⟨fp', r'⟩
end
end Z

set_option Elab.async false
set_option linter.all false
set_option maxRecDepth 100000
namespace Z
open PySem PySem.Spec PyProof.Rows L2

/-- a check on the way: where it fails the walk is not followed -/
def ck {Ω : Type} (b : Bool) (k : Option Ω) : Option Ω := if b then k else none
theorem ck_some {Ω : Type} {b : Bool} {k : Option Ω} {ω : Ω} (h : ck b k = some ω) : b = true ∧ k = some ω := by
  unfold ck at h
  cases b with
  | true => exact ⟨rfl, by simpa using h⟩
  | false => simp at h
@[simp] theorem ck_true {Ω : Type} (k : Option Ω) : ck true k = k := rfl
theorem bind_some {α Ω : Type} {o : Option α} {k : α → Option Ω} {ω : Ω} (h : o.bind k = some ω) : ∃ a, o = some a ∧ k a = some ω := by
  cases o with
  | none => cases h
  | some a => exact ⟨a, rfl, h⟩

section
variable {X : Cx} {Ω : Type} {env : Env} {nm : Str} {pos : Pos} {a b : Expr} {P P1 P2 : Type} {τ τ1 τ2 α β : Type} {S : Stor τ} {S1 : Stor τ1} {S2 : Stor τ2} {E : Enc τ} {E1 : Enc τ1} {E2 : Enc τ2}
  {G : Env → Prop} {G1 : Env → Prop} {G2 : P1 → Env → Prop} {e1 : P1 → Env} {e2 : P1 → P2 → Env} {fa : (τ1 → P1 → Option Ω) → Option Ω} {fb : P1 → (τ2 → P2 → Option Ω) → Option Ω}

theorem lo_run (ha : LO X G env a S1 e1 fa) (g1 : ∀ p1, G (e1 p1)) {C : Ck} {F H : Hp} {σs : List (Option V)} {es : Env} {σ : List (Option V)} {k : τ1 → P1 → Option Ω} {ω : Ω} {R : V → Hp → Prop} (hK : C.K = X.K) (hl : σs.length = es.length)
    (h : ER C F H (σs ++ σ) (es ++ env)) (hk : fa k = some ω)
    (q : ∀ x p1 v F' H' fp, k x p1 = some ω → ER C F' H' (σs ++ σ) (es ++ e1 p1) → S1.rel C.K F' H' fp v x → R v H') : tE X a σ H R :=
  ha C F H σs es σ k ω R hK hl h hk fun x p1 v F' H' σx ex hlx hk' h' r' => by
    obtain ⟨fp, rr⟩ := r' F' H' [] [] (e1 p1) (g1 p1) rfl h'
    exact q x p1 v F' H' fp hk' (h'.popN hlx) rr
/-- two operands in a row -/
theorem op2_run (ha : LO X G1 env a S1 e1 fa) (hb : ∀ p1, LO X (G2 p1) (e1 p1) b S2 (e2 p1) (fb p1)) (g1 : ∀ p1 p2, G1 (e2 p1 p2)) (g2 : ∀ p1 p2, G2 p1 (e2 p1 p2))
    {C : Ck} {F H : Hp} {σs : List (Option V)} {es : Env} {σ : List (Option V)} {k : τ1 → P1 → τ2 → P2 → Option Ω} {ω : Ω} {R : V → V → Hp → Prop} (hK : C.K = X.K) (hl : σs.length = es.length)
    (h : ER C F H (σs ++ σ) (es ++ env)) (hk : (fa fun x p1 => fb p1 fun y p2 => k x p1 y p2) = some ω)
    (q : ∀ x p1 y p2 v u F' H' fp fq, k x p1 y p2 = some ω → ER C F' H' (σs ++ σ) (es ++ e2 p1 p2) → S1.rel C.K F' H' fp v x → S2.rel C.K F' H' fq u y → R v u H') :
    tE X a σ H fun v H1 => tE X b σ H1 fun u H2 => R v u H2 :=
  ha C F H σs es σ _ ω _ hK hl h hk fun x p1 v F' H' σx ex hlx hk' h' r' =>
    hb p1 C F' H' (σx ++ σs) (ex ++ es) σ _ ω _ hK (by simp [hl, hlx]) (by simpa [List.append_assoc] using h') hk' fun y p2 u F2 H2 σy ey hly hk2 h2 r2 => by
      have h3 : ER C F2 H2 (σy ++ (σx ++ (σs ++ σ))) (ey ++ (ex ++ (es ++ e2 p1 p2))) := by simpa [List.append_assoc] using h2
      obtain ⟨fp, rr⟩ := r' F2 H2 σy ey (e2 p1 p2) (g1 p1 p2) hly h3
      obtain ⟨fq, rq⟩ := r2 F2 H2 [] [] (e2 p1 p2) (g2 p1 p2) rfl h2
      exact q x p1 y p2 v u F2 H2 fp fq hk2 ((h3.popN hly).popN hlx) rr rq

/-! ### numbers -/
/-- an operator of two ints, by its check and its value -/
theorem lx_opI {op : Operator} {r : R2} {c : Int → Int → Bool} {g : Int → Int → Int} (ho : OpR X (binaryOp op) r) (hr : ∀ i j H (Q : VK), c i j = true → Q (.int (g i j)) H → r (.int i) (.int j) H Q)
    {fa : (Int → P1 → Option Ω) → Option Ω} {fb : P1 → (Int → P2 → Option Ω) → Option Ω} (ha : LX X env a (it eI) e1 fa) (hb : ∀ p1, LX X (e1 p1) b (it eI) (e2 p1) (fb p1)) :
    LX X env (.BinOp a op b pos) (it eI) (fun p : P1 × P2 => e2 p.1 p.2) (fun k => fa fun x p1 => fb p1 fun y p2 => ck (c x y) (k (g x y) (p1, p2))) :=
  fun C F H σs es σ k ω Q hK hl h hk q => tE.of X (pe_op ho (peC X) (peC X)) (op2_run (lo_of ha) (fun p1 => lo_of (hb p1)) (fun _ _ => trivial) (fun _ _ => trivial) hK hl h hk
    fun x p1 y p2 v u F' H' fp fq hk' h' r1 r2 => by
      obtain ⟨hc, hk'⟩ := ck_some hk'
      obtain ⟨_, r1⟩ := r1
      obtain ⟨_, r2⟩ := r2
      cases r1; cases r2
      exact hr x y H' Q hc (q _ (p1, p2) _ F' H' hk' (h'.pushSh (.int _))))
/-- .. that needs no check -/
theorem lx_opT {op : Operator} {r : R2} {g : Int → Int → Int} (ho : OpR X (binaryOp op) r) (hr : ∀ i j H (Q : VK), Q (.int (g i j)) H → r (.int i) (.int j) H Q)
    {fa : (Int → P1 → Option Ω) → Option Ω} {fb : P1 → (Int → P2 → Option Ω) → Option Ω} (ha : LX X env a (it eI) e1 fa) (hb : ∀ p1, LX X (e1 p1) b (it eI) (e2 p1) (fb p1)) :
    LX X env (.BinOp a op b pos) (it eI) (fun p : P1 × P2 => e2 p.1 p.2) (fun k => fa fun x p1 => fb p1 fun y p2 => k (g x y) (p1, p2)) :=
  fun C F H σs es σ k ω Q hK hl h hk q => tE.of X (pe_op ho (peC X) (peC X)) (op2_run (lo_of ha) (fun p1 => lo_of (hb p1)) (fun _ _ => trivial) (fun _ _ => trivial) hK hl h hk
    fun x p1 y p2 v u F' H' fp fq hk' h' r1 r2 => by
      obtain ⟨_, r1⟩ := r1
      obtain ⟨_, r2⟩ := r2
      cases r1; cases r2
      exact hr x y H' Q (q _ (p1, p2) _ F' H' hk' (h'.pushSh (.int _))))
section
variable {fa : (Int → P1 → Option Ω) → Option Ω} {fb : P1 → (Int → P2 → Option Ω) → Option Ω}
theorem lx_add (ha : LX X env a (it eI) e1 fa) (hb : ∀ p1, LX X (e1 p1) b (it eI) (e2 p1) (fb p1)) :
    LX X env (.BinOp a .Add b pos) (it eI) (fun p : P1 × P2 => e2 p.1 p.2) (fun k => fa fun x p1 => fb p1 fun y p2 => k (x + y) (p1, p2)) := lx_opT op_add (fun i j _ _ q => ⟨i, j, rfl, rfl, q⟩) ha hb
theorem lx_sub (ha : LX X env a (it eI) e1 fa) (hb : ∀ p1, LX X (e1 p1) b (it eI) (e2 p1) (fb p1)) :
    LX X env (.BinOp a .Sub b pos) (it eI) (fun p : P1 × P2 => e2 p.1 p.2) (fun k => fa fun x p1 => fb p1 fun y p2 => k (x - y) (p1, p2)) := lx_opT op_sub (fun i j _ _ q => ⟨i, j, rfl, rfl, q⟩) ha hb
/-- a product: one factor is below 2 ^ 64 -/
def mulOk (i j : Int) : Bool := decide ((-(2 ^ 64) < i ∧ i < 2 ^ 64) ∨ (-(2 ^ 64) < j ∧ j < 2 ^ 64))
def divOk (j : Int) : Bool := decide (j ≠ 0 ∧ j.natAbs < 1073741824)
def modOk (j : Int) : Bool := decide (j ≠ 0)
def powOk (i j : Int) : Bool := decide (0 ≤ j ∧ j ≤ 1000000 ∧ i.natAbs < 2 ^ 64)
theorem lx_mul (ha : LX X env a (it eI) e1 fa) (hb : ∀ p1, LX X (e1 p1) b (it eI) (e2 p1) (fb p1)) :
    LX X env (.BinOp a .Mult b pos) (it eI) (fun p : P1 × P2 => e2 p.1 p.2) (fun k => fa fun x p1 => fb p1 fun y p2 => ck (mulOk x y) (k (x * y) (p1, p2))) := lx_opI (c := mulOk) op_mul (fun i j _ _ c q => ⟨i, j, rfl, rfl, of_decide_eq_true (p := (-(2 ^ 64) < i ∧ i < 2 ^ 64) ∨ (-(2 ^ 64) < j ∧ j < 2 ^ 64)) c, q⟩) ha hb
theorem lx_fdiv (ha : LX X env a (it eI) e1 fa) (hb : ∀ p1, LX X (e1 p1) b (it eI) (e2 p1) (fb p1)) :
    LX X env (.BinOp a .FloorDiv b pos) (it eI) (fun p : P1 × P2 => e2 p.1 p.2) (fun k => fa fun x p1 => fb p1 fun y p2 => ck (divOk y) (k (x.fdiv y) (p1, p2))) := lx_opI (c := fun _ y => divOk y) op_fdivN (fun i j _ _ c q => ⟨i, j, rfl, rfl, of_decide_eq_true (p := j ≠ 0 ∧ j.natAbs < 1073741824) c, q⟩) ha hb
theorem lx_mod (ha : LX X env a (it eI) e1 fa) (hb : ∀ p1, LX X (e1 p1) b (it eI) (e2 p1) (fb p1)) :
    LX X env (.BinOp a .Mod b pos) (it eI) (fun p : P1 × P2 => e2 p.1 p.2) (fun k => fa fun x p1 => fb p1 fun y p2 => ck (modOk y) (k (x.fmod y) (p1, p2))) := lx_opI (c := fun _ y => modOk y) op_modN (fun i j _ _ c q => ⟨i, j, rfl, rfl, of_decide_eq_true c, q⟩) ha hb
theorem lx_pow (ha : LX X env a (it eI) e1 fa) (hb : ∀ p1, LX X (e1 p1) b (it eI) (e2 p1) (fb p1)) :
    LX X env (.BinOp a .Pow b pos) (it eI) (fun p : P1 × P2 => e2 p.1 p.2) (fun k => fa fun x p1 => fb p1 fun y p2 => ck (powOk x y) (k (x ^ y.toNat) (p1, p2))) := lx_opI (c := powOk) op_pow (fun i j _ _ c q => ⟨i, j, rfl, rfl, of_decide_eq_true (p := 0 ≤ j ∧ j ≤ 1000000 ∧ i.natAbs < 2 ^ 64) c, q⟩) ha hb
theorem lx_neg (ha : LX X env a (it eI) e1 fa) : LX X env (.UnaryOp .USub a pos) (it eI) e1 (fun k => fa fun x p1 => k (-x) p1) :=
  fun C F H σs es σ k ω Q hK hl h hk q => tE.of X (pe_un un_neg (peC X)) (lo_run (lo_of ha) (fun _ => trivial) hK hl h hk fun x p1 v F' H' fp hk' h' r => by
    obtain ⟨_, r⟩ := r
    cases r
    exact ⟨x, rfl, q _ p1 _ F' H' hk' (h'.pushSh (.int _))⟩)
end
/-! ### comparisons -/
theorem lc_cmp {op : CmpOp} {r : R2} {g : τ1 → τ2 → Bool} (ho : OpR X (compareOp op) r) (ha : LO X G1 env a S1 e1 fa) (hb : ∀ p1, LO X (G2 p1) (e1 p1) b S2 (e2 p1) (fb p1)) (g1 : ∀ p1 p2, G1 (e2 p1 p2)) (g2 : ∀ p1 p2, G2 p1 (e2 p1 p2))
    (hr : ∀ K F H fp fq v u x y (Q : VK), K = X.K → Same F H → S1.rel K F H fp v x → S2.rel K F H fq u y → Q (.bl (g x y)) H → r v u H Q) :
    LC X env op a b (fun p : P1 × P2 => e2 p.1 p.2) (fun k => fa fun x p1 => fb p1 fun y p2 => k (g x y) (p1, p2)) :=
  ⟨r, ho, fun C F H σs es σ k ω Q hK hl h hk q => op2_run ha hb g1 g2 hK hl h hk fun x p1 y p2 v u F' H' fp fq hk' h' r1 r2 =>
    hr C.K F' H' fp fq v u x y Q hK h'.sF r1 r2 (q _ (p1, p2) F' H' hk' h')⟩
/-- .. with a check -/
theorem lc_cmpC {op : CmpOp} {r : R2} {c g : τ1 → τ2 → Bool} (ho : OpR X (compareOp op) r) (ha : LO X G1 env a S1 e1 fa) (hb : ∀ p1, LO X (G2 p1) (e1 p1) b S2 (e2 p1) (fb p1)) (g1 : ∀ p1 p2, G1 (e2 p1 p2)) (g2 : ∀ p1 p2, G2 p1 (e2 p1 p2))
    (hr : ∀ K F H fp fq v u x y (Q : VK), K = X.K → Same F H → c x y = true → S1.rel K F H fp v x → S2.rel K F H fq u y → Q (.bl (g x y)) H → r v u H Q) :
    LC X env op a b (fun p : P1 × P2 => e2 p.1 p.2) (fun k => fa fun x p1 => fb p1 fun y p2 => ck (c x y) (k (g x y) (p1, p2))) :=
  ⟨r, ho, fun C F H σs es σ k ω Q hK hl h hk q => op2_run ha hb g1 g2 hK hl h hk fun x p1 y p2 v u F' H' fp fq hk' h' r1 r2 => by
    obtain ⟨hc, hk'⟩ := ck_some hk'
    exact hr C.K F' H' fp fq v u x y Q hK h'.sF hc r1 r2 (q _ (p1, p2) F' H' hk' h')⟩
theorem lx_cmp {op : CmpOp} {e' : P → Env} {f : (Bool → P → Option Ω) → Option Ω} (h : LC X env op a b e' f) (hm : behindInMarks op b = false) : LX X env (.Compare a [op] [b] pos) (it eB) e' f := by
  obtain ⟨r, ho, h⟩ := h
  exact fun C F H σs es σ k ω Q hK hl hr hk q => tE.of X (pe_cmpR ho (peC X) (peC X) hm) (h C F H σs es σ k ω Q hK hl hr hk fun c p F' H' hk' h' => q c p _ F' H' hk' (h'.pushSh (.bl _)))
theorem lt_cmp {op : CmpOp} {e' : P → Env} {f : (Bool → P → Option Ω) → Option Ω} (h : LC X env op a b e' f) (hm : behindInMarks op b = false) : LT X env (.Compare a [op] [b] pos) e' f := by
  obtain ⟨r, ho, h⟩ := h
  exact fun C F H σs es σ k ω Q hK hl hr hk q => tT.of X (pt_cmpR ho (peC X) (peC X) hm) (h C F H σs es σ k ω _ hK hl hr hk fun c p F' H' hk' h' => ⟨c, rfl, q c p F' H' hk' h'⟩)
section
variable {fa : (Int → P1 → Option Ω) → Option Ω} {fb : P1 → (Int → P2 → Option Ω) → Option Ω}
theorem lc_int {op : CmpOp} {r : R2} {g : Int → Int → Bool} (ho : OpR X (compareOp op) r) (hr : ∀ i j H (Q : VK), Q (.bl (g i j)) H → r (.int i) (.int j) H Q) (ha : LX X env a (it eI) e1 fa) (hb : ∀ p1, LX X (e1 p1) b (it eI) (e2 p1) (fb p1)) :
    LC X env op a b (fun p : P1 × P2 => e2 p.1 p.2) (fun k => fa fun x p1 => fb p1 fun y p2 => k (g x y) (p1, p2)) :=
  lc_cmp ho (lo_of ha) (fun p1 => lo_of (hb p1)) (fun _ _ => trivial) (fun _ _ => trivial) fun K F H fp fq v u x y Q _ _ r1 r2 q => by
    obtain ⟨_, r1⟩ := r1
    obtain ⟨_, r2⟩ := r2
    cases r1; cases r2
    exact hr x y H Q q
theorem lc_lt (ha : LX X env a (it eI) e1 fa) (hb : ∀ p1, LX X (e1 p1) b (it eI) (e2 p1) (fb p1)) : LC X env .Lt a b (fun p : P1 × P2 => e2 p.1 p.2) (fun k => fa fun x p1 => fb p1 fun y p2 => k (decide (x < y)) (p1, p2)) := lc_int op_lt (fun i j _ _ q => ⟨i, j, rfl, rfl, q⟩) ha hb
theorem lc_le (ha : LX X env a (it eI) e1 fa) (hb : ∀ p1, LX X (e1 p1) b (it eI) (e2 p1) (fb p1)) : LC X env .LtE a b (fun p : P1 × P2 => e2 p.1 p.2) (fun k => fa fun x p1 => fb p1 fun y p2 => k (decide (x ≤ y)) (p1, p2)) := lc_int op_le (fun i j _ _ q => ⟨i, j, rfl, rfl, q⟩) ha hb
theorem lc_gt (ha : LX X env a (it eI) e1 fa) (hb : ∀ p1, LX X (e1 p1) b (it eI) (e2 p1) (fb p1)) : LC X env .Gt a b (fun p : P1 × P2 => e2 p.1 p.2) (fun k => fa fun x p1 => fb p1 fun y p2 => k (decide (y < x)) (p1, p2)) := lc_int op_gt (fun i j _ _ q => ⟨i, j, rfl, rfl, q⟩) ha hb
theorem lc_ge (ha : LX X env a (it eI) e1 fa) (hb : ∀ p1, LX X (e1 p1) b (it eI) (e2 p1) (fb p1)) : LC X env .GtE a b (fun p : P1 × P2 => e2 p.1 p.2) (fun k => fa fun x p1 => fb p1 fun y p2 => k (decide (y ≤ x)) (p1, p2)) := lc_int op_ge (fun i j _ _ q => ⟨i, j, rfl, rfl, q⟩) ha hb
theorem lc_eqI (ha : LX X env a (it eI) e1 fa) (hb : ∀ p1, LX X (e1 p1) b (it eI) (e2 p1) (fb p1)) : LC X env .Eq a b (fun p : P1 × P2 => e2 p.1 p.2) (fun k => fa fun x p1 => fb p1 fun y p2 => k (decide (x = y)) (p1, p2)) :=
  lc_int op_eq (fun i j _ _ q => ⟨rfl, by simpa using q⟩) ha hb
theorem lc_neI (ha : LX X env a (it eI) e1 fa) (hb : ∀ p1, LX X (e1 p1) b (it eI) (e2 p1) (fb p1)) : LC X env .NotEq a b (fun p : P1 × P2 => e2 p.1 p.2) (fun k => fa fun x p1 => fb p1 fun y p2 => k (!decide (x = y)) (p1, p2)) :=
  lc_int op_ne (fun i j _ _ q => ⟨rfl, by simpa using q⟩) ha hb
end
/-! ### truth -/
theorem lt_val {e' : P → Env} {f : (Bool → P → Option Ω) → Option Ω} (h : LX X env a (it eB) e' f) (he : ∀ whole, isTrue a X.env whole = (do let v ← whole; standAt a.pos; holding [v] (truthy v)) := by intro _; rfl) : LT X env a e' f :=
  fun C F H σs es σ k ω Q hK hl hr hk q => tT.of X (pt_val (peC X) he) (lo_run (lo_of h) (fun _ => trivial) hK hl hr hk fun x p1 v F' H' fp hk' h' r => by
    obtain ⟨_, r⟩ := r
    cases r
    exact ⟨x, rfl, q x p1 F' H' hk' h'⟩)
theorem lt_not {e' : P → Env} {f : (Bool → P → Option Ω) → Option Ω} (h : LT X env a e' f) : LT X env (.UnaryOp .Not a pos) e' (fun k => f fun c p => k (!c) p) :=
  fun C F H σs es σ k ω Q hK hl hr hk q => tT.of X (pt_not (ptC X)) (h C F H σs es σ _ ω _ hK hl hr hk fun c p F' H' hk' h' => q _ p F' H' hk' h')
end
end Z

set_option Elab.async false
set_option linter.all false
set_option maxRecDepth 100000
namespace Z
open PySem PySem.Spec PyProof.Rows L2

/-! ### arguments -/
section
variable {X : Cx} {Ω : Type} {env : Env} {nm : Str} {pos : Pos} {a b e : Expr} {xs : List Expr} {P P1 P2 A : Type} {τ τ1 τ2 α β : Type} {S : Stor τ} {S1 : Stor τ1} {S2 : Stor τ2} {E : Enc τ} {E1 : Enc τ1} {E2 : Enc τ2}
  {G : Env → Prop} {G1 : Env → Prop} {G2 : P1 → Env → Prop} {e' : P → Env} {e1 : P1 → Env} {e2 : P1 → P2 → Env} {fa : (τ1 → P1 → Option Ω) → Option Ω} {fb : P1 → (τ2 → P2 → Option Ω) → Option Ω} {f : (τ → P → Option Ω) → Option Ω}

theorem la_nil : LA X env [] (fun _ : Unit => []) (fun _ : Unit => env) (fun (k : Unit → Unit → Option Ω) => k () ()) :=
  fun C F H σs es σ k ω Q hK hl h hk q => tAs.of X pa_nil (q () () [] F H hk rfl h)
theorem la_cons {sl : A → Env} {fr : P1 → (A → P2 → Option Ω) → Option Ω} (h1 : LX X env e S1 e1 fa) (h2 : ∀ p1, LA X (e1 p1) xs sl (e2 p1) (fr p1)) (hs : starEach (e :: xs) X.env = (false, eval e X.env) :: starEach xs X.env := by rfl) :
    LA X env (e :: xs) (fun p : τ1 × A => .st none τ1 S1 p.1 :: sl p.2) (fun p : P1 × P2 => e2 p.1 p.2) (fun k => fa fun x p1 => fr p1 fun r p2 => k (x, r) (p1, p2)) :=
  fun C F H σs es σ k ω Q hK hl h hk q => tAs.of X (pa_cons (peC X) (paC X) hs) (h1 C F H σs es σ _ ω _ hK hl h hk fun x p1 v F' H' hk' h' =>
    h2 p1 C F' H' (some v :: σs) (.st none τ1 S1 x :: es) σ _ ω _ hK (by simp [hl]) h' hk' fun r p2 vs F2 H2 hk2 hlv h3 => by
      refine q (x, r) (p1, p2) (v :: vs) F2 H2 hk2 (by simpa using hlv) ?_
      exact ER.rot (σt := vs.map some) (et := sl r) h3 hlv)
/-- a name by its value alone: lent to a call -/
theorem la_lend {sl : A → Env} {fr : (A → P → Option Ω) → Option Ω} (i : Nat) {w : Option V} {x : τ} (he : env[i]? = some (.st w τ S x)) (hN : X.N[i]? = some nm) (hv : Vis X.env.scope nm) (h2 : LA X env xs sl e' fr) (hd : (nm == ("__debug__" : Str)) = false := by decide) (hcd : (nm == ("__classdict__" : Str)) = false := by decide)
    (hs : starEach (Expr.Name nm pos :: xs) X.env = (false, eval (Expr.Name nm pos) X.env) :: starEach xs X.env := by rfl) :
    ∀ (C : Ck) (F H : Hp) (σs : List (Option V)) (es : Env) (σ : List (Option V)) (k : A → P → Option Ω) (ω : Ω) (Q : List V → Hp → Prop), C.K = X.K → σs.length = es.length → ER C F H (σs ++ σ) (es ++ env) → fr k = some ω →
    (∀ a p (v : V) (vs : List V) F' H', k a p = some ω → σ[i]? = some (some v) → (vs.map some).length = (sl a).length → ER C F' H' (vs.map some ++ (σs ++ σ)) (sl a ++ (es ++ e' p)) → Q (v :: vs) H') → tAs X (Expr.Name nm pos :: xs) σ H Q :=
  fun C F H σs es σ k ω Q hK hl h hk q => tAs.of X (pa_cons (peC X) (paC X) hs) (tE.of X (pe_var hN hv hd hcd) (by
    obtain ⟨v, fp, e1, r⟩ := h.lookF hl he
    exact ⟨v, e1, h2 C F H σs es σ k ω _ hK hl h hk fun a p vs F' H' hk' hlv h' => q a p v vs F' H' hk' e1 hlv h'⟩))
/-- shared slots and the data in them -/
inductive ShL : Env → List PyData → Prop
  | nil : ShL [] []
  | cons {τ : Type} {E : Enc τ} {x : τ} {en : Env} {ds : List PyData} : ShL en ds → ShL (.st none τ (it E) x :: en) (E.enc x :: ds)
theorem ShL.rep {C : Ck} {F H : Hp} : ∀ {sl : Env} {ds : List PyData}, ShL sl ds → ∀ {vs : List V} {σ : List (Option V)} {env : Env}, (vs.map some).length = sl.length → ER C F H (vs.map some ++ σ) (sl ++ env) → RepAll C.K F vs ds
  | _, _, .nil, vs, σ, env, hl, h => by
    cases vs with
    | nil => exact .nil
    | cons v vs => simp at hl
  | _, _, .cons r, vs, σ, env, hl, h => by
    cases vs with
    | nil => simp at hl
    | cons v vs =>
      obtain ⟨v', fp, e1, q⟩ := h.look (i := 0) rfl
      simp at e1; subst e1
      exact .cons q.2 (r.rep (by simpa using hl) h.pop)
theorem RepAll.zero {K : Fg} {F : Hp} {τ : Type} {E : Enc τ} {H : Hp} : ∀ {vs : List V} {xs : List τ}, RepAll K F vs (xs.map E.enc) → RelAll ((it E).rel K F H) [] vs xs
  | [], [], _ => .nil
  | [], _ :: _, h => by cases h
  | _ :: _, [], h => by cases h
  | v :: vs, x :: xs, h => by
    cases h with
    | cons h1 h2 => exact RelAll.cons (fp := []) (fps := []) ⟨rfl, h1⟩ (RepAll.zero h2)
theorem RelAll.zero {K : Fg} {F : Hp} {τ : Type} {E : Enc τ} {H : Hp} : ∀ {fp : List Addr} {vs : List V} {xs : List τ}, RelAll ((it E).rel K F H) fp vs xs → fp = [] ∧ RepAll K F vs (xs.map E.enc)
  | _, _, _, .nil => ⟨rfl, .nil⟩
  | _, _, _, .cons h r => by
    obtain ⟨e, q⟩ := RelAll.zero r
    obtain ⟨e2, q2⟩ := h
    exact ⟨by rw [e, e2]; rfl, .cons q2 q⟩
/-- a tuple -/
theorem lx_tup {sl : A → Env} {fs : (A → P → Option Ω) → Option Ω} {j : Nat} (h : LA X env xs sl e' fs) (E : Enc τ) (g : A → τ) (ds : A → List PyData) (hd : ∀ a, ShL (sl a) (ds a)) (he : ∀ a, E.enc (g a) = .tuple (ds a)) (hz : xs.length ≤ 1000 := by decide) (hz2 : ∀ a, (sl a).length = xs.length := by intro _; rfl) :
    LX X env (.Tuple xs j pos) (it E) e' (fun k => fs fun a p => k (g a) p) :=
  fun C F H σs es σ k ω Q hK hl hr hk q => tE.of X (pe_tup (paC X)) (h C F H σs es σ _ ω _ hK hl hr hk fun a p vs F' H' hk' hlv h' => by
    refine ⟨?_, fun t nt => ?_⟩
    · have := hz2 a; simp at hlv; exact Nat.le_of_lt (small1000 (by omega))
    · have r := (hd a).rep hlv h'
      refine q (g a) p (.ref t) (upd F' t (.tup vs)) _ hk' (((h'.popN hlv).newF nt).pushSh ?_)
      rw [he]
      exact .tup (SqT.of upd_same) (r.mono (same_new ((h'.popN hlv).fnone nt))))
/-- a list of shared things: a new one, of one's own -/
theorem lx_list {sl : A → Env} {fs : (A → P → Option Ω) → Option Ω} (h : LA X env xs sl e' fs) (E : Enc τ) (g : A → List τ) (hd : ∀ a, ShL (sl a) ((g a).map E.enc)) (hz : xs.length ≤ 1000 := by decide) (hz2 : ∀ a, (sl a).length = xs.length := by intro _; rfl) :
    LX X env (.List xs pos) (ls (it E)) e' (fun k => fs fun a p => k (g a) p) :=
  fun C F H σs es σ k ω Q hK hl hr hk q => tE.of X (pe_lst (paC X)) (h C F H σs es σ _ ω _ hK hl hr hk fun a p vs F' H' hk' hlv h' => by
    refine ⟨?_, fun t nt => ?_⟩
    · have := hz2 a; simp at hlv; exact Nat.le_of_lt (small1000 (by omega))
    · have r := (hd a).rep hlv h'
      exact q (g a) p (.ref t) F' _ hk' ((h'.popN hlv).newOw nt ⟨t, vs, [], rfl, upd_same, r.zero, rfl⟩))

/-! ### sequences that are read -/
/-- a list that is tracked -/
structure LVm (S : Stor τ) (S1 : Stor α) (g : τ → List α) : Prop where
  view : ∀ {K : Fg} {F H : Hp} {fp : List Addr} {v : V} {x : τ}, Same F H → S.rel K F H fp v x → ∃ p vs fps, v = .ref p ∧ H p = some (.lst vs) ∧ RelAll (S1.rel K F H) fps vs (g x)
/-- a list -/
structure LVw (S : Stor τ) (S1 : Stor α) (g : τ → List α) : Prop where
  view : ∀ {K : Fg} {F H : Hp} {fp : List Addr} {v : V} {x : τ}, Same F H → S.rel K F H fp v x → ∃ p vs fps, v = .ref p ∧ SqL K H p vs ∧ RelAll (S1.rel K F H) fps vs (g x)
structure TVw (S : Stor τ) (S1 : Stor α) (g : τ → List α) : Prop where
  view : ∀ {K : Fg} {F H : Hp} {fp : List Addr} {v : V} {x : τ}, Same F H → S.rel K F H fp v x → ∃ p vs fps, v = .ref p ∧ SqT K H p vs ∧ RelAll (S1.rel K F H) fps vs (g x)
theorem LVm.w {S1 : Stor α} {g : τ → List α} (h : LVm S S1 g) : LVw S S1 g := ⟨fun s r => let ⟨p, vs, fps, e, h1, h2⟩ := h.view s r; ⟨p, vs, fps, e, SqL.of h1, h2⟩⟩
theorem lm_sh : LVm (it (eL E)) (it E) id := ⟨fun {K F H fp v x} s r => by
  obtain ⟨_, r⟩ := r
  generalize hd : (eL E).enc x = d at r
  cases r with
  | lst h1 h2 =>
    simp only [eL] at hd
    injection hd with hd
    subst hd
    exact ⟨_, _, _, rfl, s _ _ h1, h2.zero⟩
  | _ => simp [eL] at hd⟩
theorem lm_ow {S1 : Stor α} : LVm (ls S1) S1 id := ⟨fun {K F H fp v x} s r => by
  obtain ⟨p, vs, fps, rfl, h, q, rfl⟩ := r
  exact ⟨p, vs, fps, rfl, h, q⟩⟩
theorem tv_sh : TVw (it (eV E)) (it E) id := ⟨fun {K F H fp v x} s r => by
  obtain ⟨_, r⟩ := r
  generalize hd : (eV E).enc x = d at r
  cases r with
  | tup h1 h2 =>
    simp only [eV] at hd
    injection hd with hd
    subst hd
    exact ⟨_, _, _, rfl, same_sqT s h1, h2.zero⟩
  | _ => simp [eV] at hd⟩
theorem atI_map {α β : Type} (f : α → β) (xs : List α) (i : Int) : atI (xs.map f) i = (atI xs i).map f := by
  unfold atI
  rw [List.length_map]
  cases ixN xs.length i with
  | none => rfl
  | some j => simp
theorem RepAll.at {K : Fg} {F : Hp} {vs : List V} {xs : List τ} {i : Int} {y : τ} (h : RepAll K F vs (xs.map E.enc)) (e : atI xs i = some y) : ∃ v, atI vs i = some v ∧ Rep K F v (E.enc y) := by
  have hl : vs.length = xs.length := by have := h.length; simpa using this
  unfold atI at e ⊢
  rw [hl]
  cases hj : ixN xs.length i with
  | none => rw [hj] at e; cases e
  | some j =>
    rw [hj] at e
    have e' : xs[j]? = some y := e
    obtain ⟨v, h1, h2⟩ := h.get (i := j) (d := E.enc y) (by rw [List.getElem?_map, e']; rfl)
    exact ⟨v, h1, h2⟩
/-- xs[i] of a list -/
theorem lx_ix {g : τ1 → List α} {E1 : Enc α} {fb : P1 → (Int → P2 → Option Ω) → Option Ω} (hv : LVw S1 (it E1) g) (ha : LO X G env a S1 e1 fa) (hb : ∀ p1, LX X (e1 p1) b (it eI) (e2 p1) (fb p1)) (hg : ∀ p1 p2, G (e2 p1 p2)) (hp : PlainIx b := by exact fun _ _ => rfl) :
    LX X env (.Subscript a b pos) (it E1) (fun p : P1 × P2 => e2 p.1 p.2) (fun k => fa fun x p1 => fb p1 fun i p2 => (atI (g x) i).bind fun y => k y (p1, p2)) :=
  fun C F H σs es σ k ω Q hK hl h hk q => tE.of X (pe_ix ix_list (peC X) (peC X) hp) (op2_run ha (fun p1 => lo_of (hb p1)) hg (fun _ _ => trivial) hK hl h hk
    fun x p1 i p2 v u F' H' fp fq hk' h' r1 r2 => by
      obtain ⟨y, hy, hk'⟩ := bind_some hk'
      obtain ⟨_, r2⟩ := r2
      cases r2
      obtain ⟨p, vs, fps, rfl, hs, ra⟩ := hv.view h'.sF r1
      obtain ⟨w, hw, rw'⟩ := ra.zero.2.at hy
      exact ⟨p, vs, i, w, rfl, rfl, by rw [← hK]; exact hs, hw, q y (p1, p2) w F' H' hk' (h'.pushSh rw')⟩)
/-- .. of a tuple of one kind -/
theorem lx_ixV {g : τ1 → List α} {E1 : Enc α} {fb : P1 → (Int → P2 → Option Ω) → Option Ω} (hv : TVw S1 (it E1) g) (ha : LO X G env a S1 e1 fa) (hb : ∀ p1, LX X (e1 p1) b (it eI) (e2 p1) (fb p1)) (hg : ∀ p1 p2, G (e2 p1 p2)) (hp : PlainIx b := by exact fun _ _ => rfl) :
    LX X env (.Subscript a b pos) (it E1) (fun p : P1 × P2 => e2 p.1 p.2) (fun k => fa fun x p1 => fb p1 fun i p2 => (atI (g x) i).bind fun y => k y (p1, p2)) :=
  fun C F H σs es σ k ω Q hK hl h hk q => tE.of X (pe_ix ix_tup (peC X) (peC X) hp) (op2_run ha (fun p1 => lo_of (hb p1)) hg (fun _ _ => trivial) hK hl h hk
    fun x p1 i p2 v u F' H' fp fq hk' h' r1 r2 => by
      obtain ⟨y, hy, hk'⟩ := bind_some hk'
      obtain ⟨_, r2⟩ := r2
      cases r2
      obtain ⟨p, vs, fps, rfl, hs, ra⟩ := hv.view h'.sF r1
      obtain ⟨w, hw, rw'⟩ := ra.zero.2.at hy
      exact ⟨p, vs, i, w, rfl, rfl, by rw [← hK]; exact hs, hw, q y (p1, p2) w F' H' hk' (h'.pushSh rw')⟩)
/-- the n-th part of a tuple that has parts of its own kinds -/
structure Part (E : Enc τ) (n : Int) (E1 : Enc α) (g : τ → α) : Prop where
  is : ∀ x, ∃ ds, E.enc x = .tuple ds ∧ atI ds n = some (E1.enc (g x))
theorem Rep.tup_inv {K : Fg} {F : Hp} {v : V} {ds : List PyData} (h : Rep K F v (.tuple ds)) : ∃ p vs, v = .ref p ∧ SqT K F p vs ∧ RepAll K F vs ds := by
  cases h with
  | tup h1 h2 => exact ⟨_, _, rfl, h1, h2⟩
theorem Rep.lst_inv {K : Fg} {F : Hp} {v : V} {ds : List PyData} (h : Rep K F v (.list ds)) : ∃ p vs, v = .ref p ∧ F p = some (.lst vs) ∧ RepAll K F vs ds := by
  cases h with
  | lst h1 h2 => exact ⟨_, _, rfl, h1, h2⟩
theorem RepAll.atD {K : Fg} {F : Hp} {vs : List V} {ds : List PyData} {i : Int} {y : PyData} (h : RepAll K F vs ds) (e : atI ds i = some y) : ∃ v, atI vs i = some v ∧ Rep K F v y := by
  have hl : vs.length = ds.length := h.length
  unfold atI at e ⊢
  rw [hl]
  cases hj : ixN ds.length i with
  | none => rw [hj] at e; cases e
  | some j =>
    rw [hj] at e
    exact h.get e
theorem lx_part {n : Int} {g : τ1 → α} {E' : Enc α} {j : Nat} {cp : Pos} (hp : Part E1 n E' g) (ha : LX X env a (it E1) e1 fa) :
    LX X env (.Subscript a (.Constant (.int n) j cp) pos) (it E') e1 (fun k => fa fun x p1 => k (g x) p1) :=
  fun C F H σs es σ k ω Q hK hl h hk q => tE.of X (pe_ix ix_tup (peC X) pe_int fun _ _ => rfl) (lo_run (lo_of ha) (fun _ => trivial) hK hl h hk
    fun x p1 v F' H' fp hk' h' r1 => by
      obtain ⟨_, r1⟩ := r1
      obtain ⟨ds, e1, e2⟩ := hp.is x
      rw [e1] at r1
      obtain ⟨p, vs, rfl, h1, h2⟩ := r1.tup_inv
      obtain ⟨w, hw, rw'⟩ := h2.atD e2
      exact ⟨p, vs, n, w, rfl, rfl, by rw [← hK]; exact same_sqT h'.sF h1, hw, q (g x) p1 w F' H' hk' (h'.pushSh rw')⟩)
/-- .. n below 0: -1 -/
theorem lx_partN {n : Int} {g : τ1 → α} {E' : Enc α} {j : Nat} {cp up : Pos} (hp : Part E1 (-n) E' g) (ha : LX X env a (it E1) e1 fa) :
    LX X env (.Subscript a (.UnaryOp .USub (.Constant (.int n) j cp) up) pos) (it E') e1 (fun k => fa fun x p1 => k (g x) p1) :=
  fun C F H σs es σ k ω Q hK hl h hk q => tE.of X (pe_ix ix_tup (peC X) (pe_un un_neg pe_int) fun _ _ => rfl) (lo_run (lo_of ha) (fun _ => trivial) hK hl h hk
    fun x p1 v F' H' fp hk' h' r1 => by
      obtain ⟨_, r1⟩ := r1
      obtain ⟨ds, e1, e2⟩ := hp.is x
      rw [e1] at r1
      obtain ⟨p, vs, rfl, h1, h2⟩ := r1.tup_inv
      obtain ⟨w, hw, rw'⟩ := h2.atD e2
      exact ⟨n, rfl, p, vs, -n, w, rfl, rfl, by rw [← hK]; exact same_sqT h'.sF h1, hw, q (g x) p1 w F' H' hk' (h'.pushSh rw')⟩)
theorem part2_0 {A : Enc α} {B : Enc β} : Part (eT2 A B) 0 A (·.1) := ⟨fun _ => ⟨_, rfl, rfl⟩⟩
theorem part2_1 {A : Enc α} {B : Enc β} : Part (eT2 A B) 1 B (·.2) := ⟨fun _ => ⟨_, rfl, rfl⟩⟩
theorem part3_0 {γ : Type} {A : Enc α} {B : Enc β} {D : Enc γ} : Part (eT3 A B D) 0 A (·.1) := ⟨fun _ => ⟨_, rfl, rfl⟩⟩
theorem part3_1 {γ : Type} {A : Enc α} {B : Enc β} {D : Enc γ} : Part (eT3 A B D) 1 B (·.2.1) := ⟨fun _ => ⟨_, rfl, rfl⟩⟩
theorem part3_2 {γ : Type} {A : Enc α} {B : Enc β} {D : Enc γ} : Part (eT3 A B D) 2 D (·.2.2) := ⟨fun _ => ⟨_, rfl, rfl⟩⟩
theorem part4_0 {γ δ : Type} {A : Enc α} {B : Enc β} {D : Enc γ} {D' : Enc δ} : Part (eT4 A B D D') 0 A (·.1) := ⟨fun _ => ⟨_, rfl, rfl⟩⟩
theorem part4_1 {γ δ : Type} {A : Enc α} {B : Enc β} {D : Enc γ} {D' : Enc δ} : Part (eT4 A B D D') 1 B (·.2.1) := ⟨fun _ => ⟨_, rfl, rfl⟩⟩
theorem part4_2 {γ δ : Type} {A : Enc α} {B : Enc β} {D : Enc γ} {D' : Enc δ} : Part (eT4 A B D D') 2 D (·.2.2.1) := ⟨fun _ => ⟨_, rfl, rfl⟩⟩
theorem part4_3 {γ δ : Type} {A : Enc α} {B : Enc β} {D : Enc γ} {D' : Enc δ} : Part (eT4 A B D D') 3 D' (·.2.2.2) := ⟨fun _ => ⟨_, rfl, rfl⟩⟩
end
end Z

set_option Elab.async false
set_option linter.all false
set_option maxRecDepth 100000
namespace Z
open PySem PySem.Spec PyProof.Rows L2

/-! ### targets -/
def Eqo (ix : List Nat) (σ σ' : List (Option V)) : Prop := σ'.length = σ.length ∧ ∀ j, j ∉ ix → σ'[j]? = σ[j]?
theorem Eqo.refl (ix : List Nat) (σ : List (Option V)) : Eqo ix σ σ := ⟨rfl, fun _ _ => rfl⟩
theorem Eqo.trans {ix : List Nat} {a b c : List (Option V)} (h : Eqo ix a b) (g : Eqo ix b c) : Eqo ix a c := ⟨g.1.trans h.1, fun j m => (g.2 j m).trans (h.2 j m)⟩
theorem Eqo.mono {ix iy : List Nat} {a b : List (Option V)} (h : Eqo ix a b) (s : ∀ j ∈ ix, j ∈ iy) : Eqo iy a b := ⟨h.1, fun j m => h.2 j fun z => m (s j z)⟩
theorem Eqo.set {σ : List (Option V)} {i : Nat} {o : Option V} : Eqo [i] σ (σ.set i o) := ⟨by simp, fun j m => List.getElem?_set_ne (by simp at m; omega)⟩
theorem wipe_get (σ : List (Option V)) : ∀ (vs : List Nat) (j : Nat), (wipe σ vs)[j]? = if j ∈ vs then (if j < σ.length then some none else none) else σ[j]?
  | [], j => by simp [wipe]
  | v :: vs, j => by
    unfold wipe
    by_cases e : v = j
    · subst e
      by_cases hl : v < σ.length
      · rw [List.getElem?_set_self (by rw [wipe_length]; exact hl)]; simp [hl]
      · rw [List.getElem?_eq_none (by rw [List.length_set, wipe_length]; omega)]; simp [hl]
    · rw [List.getElem?_set_ne e, wipe_get σ vs j]
      have : (j ∈ v :: vs) = (j ∈ vs) := by simp; intro z; exact absurd z.symm e
      simp only [this]
theorem Eqo.wipe {ix : List Nat} {a b : List (Option V)} (h : Eqo ix a b) : wipe b ix = wipe a ix := by
  apply List.ext_getElem?
  intro j
  rw [wipe_get, wipe_get, h.1]
  by_cases m : j ∈ ix
  · rw [if_pos m, if_pos m]
  · rw [if_neg m, if_neg m]; exact h.2 j m
section
variable (X : Cx)
def tG (tg : Expr) : TG := fun v σ H Q => ∀ pins s u, Inv X pins σ H s → RelV v u → wpAny (model X.prog X.w) X.A (assign tg X.env u) (fun _ s' => ∃ σ' H', Inv X pins σ' H' s' ∧ Q σ' H') X.xe s
def tGs (ts : List Expr) : TGs := fun vs σ H Q => ∀ pins s us, Inv X pins σ H s → Vals vs us → wpAny (model X.prog X.w) X.A (assignInOrder ((assignEach ts X.env).map (·.2)) us) (fun _ s' => ∃ σ' H', Inv X pins σ' H' s' ∧ Q σ' H') X.xe s
theorem pgC {tg : Expr} : PG X tg (tG X tg) := ⟨fun pins s σ H v u Q I r h => h pins s u I r⟩
theorem pgsC {ts : List Expr} : PGs X ts (tGs X ts) := ⟨fun pins s σ H vs us Q I r h => h pins s us I r⟩
theorem tG.of {tg : Expr} {t : TG} {v : V} {σ : L2.St} {H : Hp} {Q : L2.St → Hp → Prop} (h : PG X tg t) (q : t v σ H Q) : tG X tg v σ H Q := fun pins s u I r => h.run pins s σ H v u Q I r q
theorem tGs.of {ts : List Expr} {t : TGs} {vs : List V} {σ : L2.St} {H : Hp} {Q : L2.St → Hp → Prop} (h : PGs X ts t) (q : t vs σ H Q) : tGs X ts vs σ H Q := fun pins s us I r => h.run pins s σ H vs us Q I r q
/-- a target: where its value goes -/
def LG (ix : List Nat) (env : Env) (tg : Expr) {τ : Type} (S : Stor τ) (envT : τ → Env) : Prop :=
  ∀ (C : Ck) (F H : Hp) (σs : List (Option V)) (es : Env) (σ : List (Option V)) (v : V) (a : τ) (Q : L2.St → Hp → Prop), C.K = X.K → σs.length = es.length → ER C F H (some v :: (σs ++ σ)) (.st none τ S a :: (es ++ env)) →
    (∀ σ', Eqo ix σ σ' → ER C F H (σs ++ σ') (es ++ envT a) → Q σ' H) → tG X tg v σ H Q
/-- targets for the parts of a tuple -/
def LGs (ix : List Nat) (env : Env) (tgs : List Expr) {A : Type} (sl : A → Env) (envT : A → Env) : Prop :=
  ∀ (C : Ck) (F H : Hp) (σs : List (Option V)) (es : Env) (σ : List (Option V)) (vs : List V) (a : A) (Q : L2.St → Hp → Prop), C.K = X.K → σs.length = es.length → (vs.map some).length = (sl a).length → ER C F H (vs.map some ++ (σs ++ σ)) (sl a ++ (es ++ env)) →
    (∀ σ', Eqo ix σ σ' → ER C F H (σs ++ σ') (es ++ envT a) → Q σ' H) → tGs X tgs vs σ H Q
end
section
variable {X : Cx} {Ω : Type} {env : Env} {nm : Str} {pos : Pos} {a b e tg : Expr} {xs tgs : List Expr} {P P1 P2 A : Type} {τ τ1 τ2 α β : Type} {S : Stor τ} {S1 : Stor τ1} {S2 : Stor τ2} {E : Enc τ} {E1 : Enc τ1} {E2 : Enc τ2} {ix : List Nat}
theorem lg_name (i : Nat) (hN : X.N.Nodup) (hi : X.N[i]? = some nm := by rfl) (hx : Loc X.env.scope nm := by first | exact Or.inl rfl | exact Or.inr rfl) (hl : i < env.length := by exact (Nat.lt_of_sub_eq_succ rfl)) (hf : X.fn nm = true ∨ X.env.scope.names.lookup nm = some .local := by first | exact .inl rfl | exact .inr rfl) : LG X [i] env (.Name nm pos) S (fun a => env.set i (.st none τ S a)) :=
  fun C F H σs es σ v a Q hK hls h q => tG.of X (pg_name hN hi hx hf) (q _ Eqo.set (h.asg hls hl))
theorem lgs_nil : LGs X [] env [] (fun _ : Unit => []) (fun _ : Unit => env) := fun C F H σs es σ vs a Q hK hl hv h q => tGs.of X pgs_nil (by
  cases vs with
  | nil => exact ⟨rfl, q σ (Eqo.refl _ _) h⟩
  | cons v vs => simp at hv)
theorem lgs_cons {i1 i2 : List Nat} {env1 : τ → Env} {sl : A → Env} {env2 : τ → A → Env} (h1 : LG X i1 env tg S env1) (h2 : ∀ x, LGs X i2 (env1 x) tgs sl (env2 x))
    (hs : (assignEach (tg :: tgs) X.env).map (·.2) = assign tg X.env :: (assignEach tgs X.env).map (·.2) := by rfl) : LGs X (i1 ++ i2) env (tg :: tgs) (fun p : τ × A => .st none τ S p.1 :: sl p.2) (fun p : τ × A => env2 p.1 p.2) :=
  fun C F H σs es σ vs a Q hK hl hv h q => tGs.of X (pgs_cons (pgC X) (pgsC X) hs) (by
    cases vs with
    | nil => simp at hv
    | cons v vs =>
      have hv' : (vs.map some).length = (sl a.2).length := by simpa using hv
      refine ⟨v, vs, rfl, h1 C F H (vs.map some ++ σs) (sl a.2 ++ es) σ v a.1 _ hK (by simp [hl]; simpa using hv') (by simpa [List.append_assoc] using h) fun σ' e1 h' => ?_⟩
      exact h2 a.1 C F H σs es σ' vs a.2 Q hK hl hv' (by simpa [List.append_assoc] using h') fun σ2 e2 h3 => q σ2 ((e1.mono fun j m => List.mem_append_left _ m).trans (e2.mono fun j m => List.mem_append_right _ m)) h3)
/-- data that stand on the stack as shared slots -/
theorem ER.pushAll {C : Ck} {F H : Hp} : ∀ {sl : Env} {ds : List PyData}, ShL sl ds → ∀ {vs : List V} {σ : List (Option V)} {env : Env}, RepAll C.K F vs ds → ER C F H σ env → (vs.map some).length = sl.length ∧ ER C F H (vs.map some ++ σ) (sl ++ env)
  | _, _, .nil, _, σ, env, r, h => by cases r; exact ⟨rfl, h⟩
  | _, _, .cons q, _, σ, env, r, h => by
    cases r with
    | cons r1 r2 =>
      obtain ⟨e, h'⟩ := ER.pushAll q r2 h
      exact ⟨by simpa using e, h'.pushSh r1⟩
theorem lg_tup {sl : A → Env} {envT : A → Env} {j n : Nat} (h : LGs X ix env tgs sl envT) (g : τ → A) (ds : A → List PyData) (hd : ∀ a, ShL (sl a) (ds a)) (he : ∀ x, E.enc x = .tuple (ds (g x))) (hc : X.calm = true)
    (hz : ∀ a, (sl a).length = n) (hn : (assignEach tgs X.env).length = n := by rfl) (hst : (assignEach tgs X.env).findIdx? (·.1) = none := by rfl) : LG X ix env (.Tuple tgs j pos) (it E) (fun x => envT (g x)) :=
  fun C F H σs es σ v a Q hK hl hr q => tG.of X (pg_tup hc (pgsC X) hn hst) (by
    obtain ⟨v', fp, e1, r⟩ := hr.look (i := 0) rfl
    simp at e1; subst e1
    obtain ⟨_, r⟩ := r
    rw [he] at r
    obtain ⟨p, vs, rfl, h1, h2⟩ := r.tup_inv
    obtain ⟨hlv, h'⟩ := ER.pushAll (hd (g a)) h2 hr.pop
    have hl2 : vs.length = n := by have := hz (g a); simp at hlv; omega
    exact ⟨p, vs, rfl, by rw [← hK]; exact same_sqT hr.sF h1, hl2, h C F H σs es σ vs (g a) Q hK hl hlv h' q⟩)
end

/-! ### what is walked -/
section
variable (X : Cx) {Ω : Type}
def tI (tg iter : Expr) : TI := fun σ H R => ∀ pins s, Inv X pins σ H s → wpAny (model X.prog X.w) X.A (eval iter X.env) (fun v s1 => wpAny (model X.prog X.w) X.A (pyIter v) (PIE X pins σ tg R) X.xe s1) X.xe s
theorem piC {tg iter : Expr} : PI X tg iter (tI X tg iter) := ⟨fun pins s σ H R I h => h pins s I⟩
theorem tI.of {tg iter : Expr} {t : TI} {σ : L2.St} {H : Hp} {R : It → Hp → Prop} (h : PI X tg iter t) (q : t σ H R) : tI X tg iter σ H R := fun pins s I => h.run pins s σ H R I q
/-- J yields xs, as long as the stack's top stands; each item may make new things -/
structure Yields (C : Ck) {α : Type} (S : Stor α) (J : It) (xs : List α) (σx : List (Option V)) (ex : Env) : Prop where
  len : σx.length = ex.length
  go : ∀ (i : Nat) (F H : Hp) (σ2 σb : List (Option V)) (e2 eb : Env), σ2.length = e2.length → ER C F H (σ2 ++ (σx ++ σb)) (e2 ++ (ex ++ eb)) →
    (∀ x, xs[i]? = some x → J.go i H ∧ ∀ v H', J.yld i H v H' → ∃ F', ER C F' H' (some v :: (σ2 ++ (σx ++ σb))) (.st none α S x :: (e2 ++ (ex ++ eb)))) ∧ (xs[i]? = none → J.stop i H)
def LI (env : Env) (tg iter : Expr) {α : Type} (S : Stor α) {P : Type} (env' : P → Env) (f : (List α → P → Option Ω) → Option Ω) : Prop :=
  ∀ (C : Ck) (F H : Hp) (σs : List (Option V)) (es : Env) (σ : List (Option V)) (k : List α → P → Option Ω) (ω : Ω) (R : It → Hp → Prop), C.K = X.K → σs.length = es.length → ER C F H (σs ++ σ) (es ++ env) → f k = some ω →
    (∀ xs p J F' H' (σx : List (Option V)) (ex : Env), k xs p = some ω → ER C F' H' (σx ++ (σs ++ σ)) (ex ++ (es ++ env' p)) → Yields C S J xs σx ex → R J H') → tI X tg iter σ H R
end
section
variable {X : Cx} {Ω : Type} {env : Env} {nm : Str} {pos : Pos} {a b e tg : Expr} {xs tgs : List Expr} {P P1 P2 A : Type} {τ τ1 τ2 α β : Type} {S : Stor τ} {S1 : Stor τ1} {S2 : Stor τ2} {E : Enc τ} {E1 : Enc τ1} {E2 : Enc τ2} {ix : List Nat} {e' : P → Env} {e1 : P1 → Env} {e2 : P1 → P2 → Env}
theorem li_list {g : τ → List α} {Ea : Enc α} {f : (τ → P → Option Ω) → Option Ω} (hv : LVw S (it Ea) g) (h : LX X env e S e' f) : LI X env tg e (it Ea) e' (fun k => f fun x p => k (g x) p) :=
  fun C F H σs es σ k ω R hK hl hr hk q => tI.of X (pi_list (peC X)) (h C F H σs es σ _ ω _ hK hl hr hk fun x p v F' H' hk' h' => by
    obtain ⟨v', fp, e1, r⟩ := h'.look (i := 0) rfl
    simp at e1; subst e1
    obtain ⟨p0, vs, fps, rfl, hs, ra⟩ := hv.view h'.sF r
    refine ⟨p0, rfl, ⟨vs, by rw [← hK]; exact hs⟩, q (g x) p (Itl X.K p0) F' H' [some (.ref p0)] [.st none τ S x] hk' h' ⟨rfl, fun i F2 H2 σ2 σb e2 eb hl2 h2 => ?_⟩⟩
    obtain ⟨v', fp', e1, r'⟩ := h2.look (i := e2.length + 0) (by rw [at_app _ rfl]; rfl)
    rw [at_app _ hl2] at e1
    simp at e1; subst e1
    obtain ⟨p1, ws, fps', e3, hs', ra'⟩ := hv.view h2.sF r'
    cases e3
    rw [hK] at hs'
    have rp := ra'.zero.2
    refine ⟨fun y hy => ?_, fun hn => ?_⟩
    · obtain ⟨w, hw, rw'⟩ := rp.get (i := i) (d := Ea.enc y) (by rw [List.getElem?_map, hy]; rfl)
      refine ⟨⟨ws, w, hs', hw⟩, fun v H' hy' => ⟨F2, ?_⟩⟩
      obtain ⟨e4, hy'⟩ := hy'
      have := hy' ws hs'
      rw [hw] at this; cases this
      rw [e4]
      exact h2.pushSh rw'
    · refine ⟨ws, hs', ?_⟩
      have := rp.length
      simp at this
      have := List.getElem?_eq_none_iff.mp hn
      omega)
/-- the ints of a range -/
def rangeL (lo hi : Int) : List Int := (List.range (hi - lo).toNat).map fun i => lo + (i : Nat)
def rgOk (lo hi : Int) : Bool := decide (-(2 ^ 62) ≤ lo ∧ lo < 2 ^ 62 ∧ -(2 ^ 62) ≤ hi ∧ hi < 2 ^ 62)
theorem yields_range {C : Ck} {lo : Int} {hi : Int} : Yields C (it eI) (Itr lo (hi - lo).toNat) (rangeL lo hi) [] [] := ⟨rfl, fun i F H σ2 σb e2 eb hl2 h2 => by
  refine ⟨fun y hy => ?_, fun hn => ?_⟩
  · unfold rangeL at hy
    rw [List.getElem?_map] at hy
    by_cases hi : i < (hi - lo).toNat
    · rw [List.getElem?_range hi] at hy
      simp at hy; subst hy
      refine ⟨hi, fun v H' hy' => ⟨F, ?_⟩⟩
      obtain ⟨e1, e2⟩ := hy'
      rw [e1, e2]
      exact h2.pushSh (.int _)
    · rw [List.getElem?_eq_none (by simpa using hi)] at hy; cases hy
  · unfold rangeL at hn
    rw [List.getElem?_eq_none_iff] at hn
    simp at hn
    show (hi - lo).toNat ≤ i
    omega⟩
theorem li_range2 {f1 : (Int → P1 → Option Ω) → Option Ω} {f2 : P1 → (Int → P2 → Option Ω) → Option Ω} {p : Pos} (hg : Gl X "range") (hm : X.mg "range" = none) (h1 : LX X env a (it eI) e1 f1) (h2 : ∀ p1, LX X (e1 p1) b (it eI) (e2 p1) (f2 p1))
    (hs : starEach [a, b] X.env = [(false, eval a X.env), (false, eval b X.env)] := by rfl) (hs2 : starEach [b] X.env = [(false, eval b X.env)] := by rfl) (hs3 : starEach [a, b] X.env = (false, eval a X.env) :: starEach [b] X.env := by rfl) (hs4 : starEach [b] X.env = (false, eval b X.env) :: starEach [] X.env := by rfl) :
    LI X env tg (.Call (.Name "range" p) [a, b] [] pos) (it eI) (fun q : P1 × P2 => e2 q.1 q.2) (fun k => f1 fun x p1 => f2 p1 fun y p2 => ck (rgOk x y) (k (rangeL x y) (p1, p2))) :=
  fun C F H σs es σ k ω R hK hl hr hk q => tI.of X (pi_range2 hg hm (pa_cons (peC X) (pa_cons (peC X) pa_nil hs4) hs3) hs hs2) (op2_run (lo_of h1) (fun p1 => lo_of (h2 p1)) (fun _ _ => trivial) (fun _ _ => trivial) hK hl hr hk
    fun x p1 y p2 v u F' H' fp fq hk' h' r1 r2 => by
      obtain ⟨hc, hk'⟩ := ck_some hk'
      obtain ⟨_, r1⟩ := r1
      obtain ⟨_, r2⟩ := r2
      cases r1; cases r2
      exact ⟨x, y, rfl, of_decide_eq_true (p := -(2 ^ 62) ≤ x ∧ x < 2 ^ 62 ∧ -(2 ^ 62) ≤ y ∧ y < 2 ^ 62) hc, q (rangeL x y) (p1, p2) _ F' H' [] [] hk' h' yields_range⟩)
theorem li_range1 {f1 : (Int → P1 → Option Ω) → Option Ω} {p : Pos} (hg : Gl X "range") (hm : X.mg "range" = none) (h1 : LX X env a (it eI) e1 f1)
    (hs : starEach [a] X.env = [(false, eval a X.env)] := by rfl) (hs4 : starEach [a] X.env = (false, eval a X.env) :: starEach [] X.env := by rfl) :
    LI X env tg (.Call (.Name "range" p) [a] [] pos) (it eI) e1 (fun k => f1 fun y p1 => ck (rgOk 0 y) (k (rangeL 0 y) p1)) :=
  fun C F H σs es σ k ω R hK hl hr hk q => tI.of X (pi_range1 hg hm (pa_cons (peC X) pa_nil hs4) hs) (lo_run (lo_of h1) (fun _ => trivial) hK hl hr hk
    fun y p1 v F' H' fp hk' h' r1 => by
      obtain ⟨hc, hk'⟩ := ck_some hk'
      obtain ⟨_, r1⟩ := r1
      cases r1
      have hc' := of_decide_eq_true (p := -(2 ^ 62) ≤ (0 : Int) ∧ (0 : Int) < 2 ^ 62 ∧ -(2 ^ 62) ≤ y ∧ y < 2 ^ 62) hc
      have e0 : (y - 0).toNat = y.toNat := by omega
      refine ⟨y, rfl, hc'.2.2.1, hc'.2.2.2, ?_⟩
      rw [← e0]
      exact q (rangeL 0 y) p1 _ F' H' [] [] hk' h' yields_range)
end

/-! ### statements -/
/-- a loop over items: go on, or out -/
def forO {α S Ω : Type} : List α → S → (α → S → (S → Option Ω) → Option Ω) → (S → Option Ω) → Option Ω
  | [], s, _, k => k s
  | x :: xs, s, b, k => b x s fun s' => forO xs s' b k
/-- a loop with fuel -/
def whileO {S Ω : Type} : Nat → S → (S → (S → Option Ω) → Option Ω) → Option Ω
  | 0, _, _ => none
  | n + 1, s, b => b s fun s' => whileO n s' b
section
variable {X : Cx} {R I Ω : Type} {SR : Stor R} {envR : I → Env} {kr : R → I → Option Ω} {bk ct : Lp Ω} {env : Env} {nm : Str} {pos : Pos} {c e tg iter : Expr} {sts sa sb rest : List Stmt} {P A : Type} {τ α : Type} {S : Stor τ} {Sa : Stor α} {e' : P → Env} {ix : List Nat} {J J1 : Type} {envJ : J → Env} {env1 : J1 → Env}
theorem lb_end (j : J) (hs : Sub env (envJ j)) : LB X SR envR kr bk ct env [] envJ (fun kn => kn j) :=
  fun C F H σs es σ kn ω D hK hl h hk qn qb qc qr => tSs.of X pss_nil (qn j F H σ hk (h.subF hs))
theorem lb_sub {env0 : Env} {f : (J → Option Ω) → Option Ω} (hs : Sub env env0) (h : LB X SR envR kr bk ct env0 sts envJ f) : LB X SR envR kr bk ct env sts envJ f :=
  fun C F H σs es σ kn ω D hK hl hr hk qn qb qc qr => h C F H σs es σ kn ω D hK hl (hr.subF hs) hk qn qb qc qr
/-- a slot is shared from here on -/
theorem lb_frz {E : Enc τ} {x : τ} {f : (J → Option Ω) → Option Ω} (i : Nat) (fz : Frz S E) (he : env[i]? = some (.st none τ S x)) (h : LB X SR envR kr bk ct (env.set i (.st none τ (it E) x)) sts envJ f) : LB X SR envR kr bk ct env sts envJ f :=
  fun C F H σs es σ kn ω D hK hl hr hk qn qb qc qr => by
    obtain ⟨F', sF, h'⟩ := hr.freeze (i := es.length + i) fz (by rw [at_app _ rfl]; exact he)
    rw [List.set_append_right _ _ (Nat.le_add_right _ _), Nat.add_sub_cancel_left] at h'
    exact h C F' H σs es σ kn ω D hK hl h' hk qn qb qc qr
theorem lb_asg {f : (τ → P → Option Ω) → Option Ω} {fr : τ → P → (J → Option Ω) → Option Ω} {envT : P → τ → Env} (he : LX X env e S e' f) (hg : ∀ p, LG X ix (e' p) tg S (envT p)) (hr : ∀ x p, LB X SR envR kr bk ct (envT p x) rest envJ (fr x p))
    (hs : swapsWithSole [tg] e pos.line X.env = pure false := by rfl) (hw : swappedStores [tg] e X.env = pure none := by rfl) (h1 : (assignEach [tg] X.env).map (·.2) = [assign tg X.env] := by rfl) :
    LB X SR envR kr bk ct env (.Assign [tg] e pos :: rest) envJ (fun kn => f fun x p => fr x p kn) :=
  fun C F H σs es σ kn ω D hK hl h hk qn qb qc qr => tSs.of X (pss_cons (ps_asg (peC X) (pgC X) hs hw h1) (pssC X)) (he C F H σs es σ _ ω _ hK hl h hk fun x p v F' H' hk' h' =>
    hg p C F' H' σs es σ v x _ hK hl h' fun σ' _ h2 => hr x p C F' H' σs es σ' kn ω D hK hl h2 hk' qn qb qc qr)
theorem lb_set {f : (τ → P → Option Ω) → Option Ω} {fr : τ → P → (J → Option Ω) → Option Ω} {pos' : Pos} (i : Nat) (hN : X.N.Nodup) (he : LX X env e S e' f) (hr : ∀ x p, LB X SR envR kr bk ct ((e' p).set i (.st none τ S x)) rest envJ (fr x p))
    (hi : X.N[i]? = some nm := by rfl) (hx : Loc X.env.scope nm := by first | exact Or.inl rfl | exact Or.inr rfl) (hlt : ∀ p, i < (e' p).length := by exact (fun _ => Nat.lt_of_sub_eq_succ rfl)) (hf : X.fn nm = true ∨ X.env.scope.names.lookup nm = some .local := by first | exact .inl rfl | exact .inr rfl) (hs : swapsWith e (some (.Name nm pos')) pos.line X.env = pure false := by rfl) :
    LB X SR envR kr bk ct env (.Assign [.Name nm pos'] e pos :: rest) envJ (fun kn => f fun x p => fr x p kn) :=
  fun C F H σs es σ kn ω D hK hl h hk qn qb qc qr => tSs.of X (pss_cons (ps_set hN hi hx (peC X) hs hf) (pssC X)) (he C F H σs es σ _ ω _ hK hl h hk fun x p v F' H' hk' h' =>
    hr x p C F' H' σs es (σ.set i (some v)) kn ω D hK hl (h'.asg hl (hlt p)) hk' qn qb qc qr)
theorem lb_if {f : (Bool → P → Option Ω) → Option Ω} {fa fb : P → (J1 → Option Ω) → Option Ω} {fr : J1 → (J → Option Ω) → Option Ω} (hc : LT X env c e' f) (ha : ∀ p, LB X SR envR kr bk ct (e' p) sa env1 (fa p)) (hb : ∀ p, LB X SR envR kr bk ct (e' p) sb env1 (fb p)) (hr : ∀ j, LB X SR envR kr bk ct (env1 j) rest envJ (fr j)) :
    LB X SR envR kr bk ct env (.If c sa sb pos :: rest) envJ (fun kn => f fun b p => if b = true then fa p fun j => fr j kn else fb p fun j => fr j kn) :=
  fun C F H σs es σ kn ω D hK hl h hk qn qb qc qr => tSs.of X (pss_cons (ps_if (ptC X) (pssC X) (pssC X)) (pssC X)) (hc C F H σs es σ _ ω _ hK hl h hk fun b p F' H' hk' h' => by
    cases b with
    | true =>
      rw [if_pos rfl] at hk'
      show if true = true then _ else _
      rw [if_pos rfl]
      exact ha p C F' H' σs es σ _ ω _ hK hl h' hk' (fun j F2 H2 σ2 hk2 h2 => hr j C F2 H2 σs es σ2 kn ω D hK hl h2 hk2 qn qb qc qr) qb qc qr
    | false =>
      rw [if_neg Bool.false_ne_true] at hk'
      show if false = true then _ else _
      rw [if_neg Bool.false_ne_true]
      exact hb p C F' H' σs es σ _ ω _ hK hl h' hk' (fun j F2 H2 σ2 hk2 h2 => hr j C F2 H2 σs es σ2 kn ω D hK hl h2 hk2 qn qb qc qr) qb qc qr)
/-- an if whose body never goes on -/
theorem lb_ifr {f : (Bool → P → Option Ω) → Option Ω} {fa : P → (Empty → Option Ω) → Option Ω} {fr : P → (J → Option Ω) → Option Ω} (hc : LT X env c e' f) (ha : ∀ p, LB X SR envR kr bk ct (e' p) sa (fun z : Empty => z.elim) (fa p)) (hr : ∀ p, LB X SR envR kr bk ct (e' p) rest envJ (fr p)) :
    LB X SR envR kr bk ct env (.If c sa [] pos :: rest) envJ (fun kn => f fun b p => if b = true then fa p (fun z => z.elim) else fr p kn) :=
  fun C F H σs es σ kn ω D hK hl h hk qn qb qc qr => tSs.of X (pss_cons (ps_if (ptC X) (pssC X) pss_nil) (pssC X)) (hc C F H σs es σ _ ω _ hK hl h hk fun b p F' H' hk' h' => by
    cases b with
    | true =>
      rw [if_pos rfl] at hk'
      show if true = true then _ else _
      rw [if_pos rfl]
      exact ha p C F' H' σs es σ _ ω _ hK hl h' hk' (fun z => z.elim) qb qc qr
    | false =>
      rw [if_neg Bool.false_ne_true] at hk'
      show if false = true then _ else _
      rw [if_neg Bool.false_ne_true]
      exact hr p C F' H' σs es σ kn ω D hK hl h' hk' qn qb qc qr)
theorem lb_ret {f : (R → P → Option Ω) → Option Ω} (he : LX X env e SR e' f) (g : P → I) (hs : ∀ p, Sub (e' p) (envR (g p))) : LB X SR envR kr bk ct env (.Return (some e) pos :: rest) envJ (fun _ => f fun x p => kr x (g p)) :=
  fun C F H σs es σ kn ω D hK hl h hk qn qb qc qr => tSs.of X (pss_cons (ps_ret (peC X)) (pssC X)) (he C F H σs es σ _ ω _ hK hl h hk fun x p v F' H' hk' h' =>
    qr x (g p) v F' H' σ hk' (ER.sub h' (.keep ((hs p).pre es))))
theorem lb_brk (j : bk.J) (hs : Sub env (bk.env j)) : LB X SR envR kr bk ct env (.Break pos :: rest) envJ (fun _ => bk.k j) :=
  fun C F H σs es σ kn ω D hK hl h hk qn qb qc qr => tSs.of X (pss_cons ps_break (pssC X)) (qb j F H σ hk (h.subF hs))
theorem lb_cont (j : ct.J) (hs : Sub env (ct.env j)) : LB X SR envR kr bk ct env (.Continue pos :: rest) envJ (fun _ => ct.k j) :=
  fun C F H σs es σ kn ω D hK hl h hk qn qb qc qr => tSs.of X (pss_cons ps_continue (pssC X)) (qc j F H σ hk (h.subF hs))
theorem lb_pass {f : (J → Option Ω) → Option Ω} (hr : LB X SR envR kr bk ct env rest envJ f) : LB X SR envR kr bk ct env (.Pass pos :: rest) envJ f :=
  fun C F H σs es σ kn ω D hK hl h hk qn qb qc qr => tSs.of X (pss_cons ps_pass (pssC X)) (hr C F H σs es σ kn ω D hK hl h hk qn qb qc qr)
/-- an expression for what it does -/
theorem lb_expr {f : (τ → P → Option Ω) → Option Ω} {fr : P → (J → Option Ω) → Option Ω} (he : LX X env e S e' f) (hr : ∀ p, LB X SR envR kr bk ct (e' p) rest envJ (fr p)) (hs : swapsWith e none pos.line X.env = pure false := by rfl) :
    LB X SR envR kr bk ct env (.Expr e pos :: rest) envJ (fun kn => f fun _ p => fr p kn) :=
  fun C F H σs es σ kn ω D hK hl h hk qn qb qc qr => tSs.of X (pss_cons (ps_expr (peC X) hs) (pssC X)) (he C F H σs es σ _ ω _ hK hl h hk fun x p v F' H' hk' h' =>
    hr p C F' H' σs es σ kn ω D hK hl h'.pop hk' qn qb qc qr)
/-- a for; T: what it carries -/
theorem lb_for {T : Type} {envT : T → Env} {envX : T → α → Env} {f : (List α → P → Option Ω) → Option Ω} {fb : α → T → (T → Option Ω) → (T → Option Ω) → (T → Option Ω) → Option Ω} {fr : T → (J → Option Ω) → Option Ω}
    (hp : PassesOwn (model X.prog X.w) X.A X.env X.xe) (hc : X.calm = true) (hi : LI X env tg iter Sa e' f) (t0 : P → T) (h0 : ∀ p, Sub (e' p) (envT (t0 p))) (hg : ∀ t, LG X ix (envT t) tg Sa (envX t))
    (hb : ∀ x t kc kb, LB X SR envR kr ⟨T, envT, kb⟩ ⟨T, envT, kc⟩ (envX t x) sts envT (fun kn => fb x t kn kc kb)) (hr : ∀ t, LB X SR envR kr bk ct (envT t) rest envJ (fr t)) (hs : ∀ x, foldedSetIterable iter X.env x = pure x := by intro _; rfl) :
    LB X SR envR kr bk ct env (.For tg iter sts [] pos :: rest) envJ (fun kn => f fun xs p => forO xs (t0 p) (fun x t kc => fb x t kc kc fun t' => fr t' kn) fun t' => fr t' kn) :=
  fun C F H σs es σ kn ω D hK hl h hk qn qb qc qr => tSs.of X (pss_cons (ps_for hp hc (piC X) (pgC X) (pssC X) hs) (pssC X)) (hi C F H σs es σ _ ω _ hK hl h hk fun xs p Jt F' H' σx ex hk' h' hy => by
    have out : ∀ t F2 H2 σ2, fr t kn = some ω → ER C F2 H2 (σx ++ (σs ++ σ2)) (ex ++ (es ++ envT t)) → tSs X rest D σ2 H2 := fun t F2 H2 σ2 hk2 h2 =>
      hr t C F2 H2 σs es σ2 kn ω D hK hl (h2.popN hy.len) hk2 qn qb qc qr
    refine ⟨fun i m σ2 H2 => m = xs.length - i ∧ i ≤ xs.length ∧ ∃ t F2, ER C F2 H2 (σx ++ (σs ++ σ2)) (ex ++ (es ++ envT t)) ∧ forO (xs.drop i) t (fun x t kc => fb x t kc kc fun t' => fr t' kn) (fun t' => fr t' kn) = some ω,
      ⟨xs.length, by simp, Nat.zero_le _, t0 p, F', h'.sub (((h0 p).pre es).pre ex), by simpa using hk'⟩, ?_⟩
    rintro i m σ2 H2 ⟨rfl, hi, t, F2, h2, hk2⟩
    obtain ⟨y1, y2⟩ := hy.go i F2 H2 [] (σs ++ σ2) [] (es ++ envT t) rfl h2
    by_cases hlt : i < xs.length
    · have ex1 : xs[i]? = some xs[i] := List.getElem?_eq_getElem hlt
      obtain ⟨g1, g2⟩ := y1 _ ex1
      have ed : xs.drop i = xs[i] :: xs.drop (i + 1) := List.drop_eq_getElem_cons hlt
      rw [ed] at hk2
      refine .inr ⟨g1, fun σ3 H3 => ∃ t F3, ER C F3 H3 (σx ++ (σs ++ σ3)) (ex ++ (es ++ envT t)) ∧ forO (xs.drop (i + 1)) t (fun x t kc => fb x t kc kc fun t' => fr t' kn) (fun t' => fr t' kn) = some ω,
        fun σ3 H3 ⟨t3, F3, h3, hk3⟩ => ⟨xs.length - (i + 1), by omega, rfl, hlt, t3, F3, h3, hk3⟩, fun v H3 hv => ?_⟩
      obtain ⟨F3, h3⟩ := g2 v H3 hv
      refine hg t C F3 H3 (σx ++ σs) (ex ++ es) σ2 v xs[i] _ hK (by simp [hl, hy.len]) (by simpa [List.append_assoc] using h3) fun σ4 _ h4 => ?_
      refine hb xs[i] t (fun s' => forO (xs.drop (i + 1)) s' (fun x t kc => fb x t kc kc fun t' => fr t' kn) fun t' => fr t' kn) (fun t' => fr t' kn) C F3 H3 (σx ++ σs) (ex ++ es) σ4 _ ω _ hK (by simp [hl, hy.len]) h4 hk2 ?_ ?_ ?_ ?_
      · intro t5 F5 H5 σ5 hk5 h5; exact ⟨t5, F5, by simpa [List.append_assoc] using h5, hk5⟩
      · intro t5 F5 H5 σ5 hk5 h5; exact out t5 F5 H5 σ5 hk5 (by simpa [List.append_assoc] using h5)
      · intro t5 F5 H5 σ5 hk5 h5; exact ⟨t5, F5, by simpa [List.append_assoc] using h5, hk5⟩
      · intro a5 i5 v5 F5 H5 σ5 hk5 h5
        refine qr a5 i5 v5 F5 H5 σ5 hk5 ?_
        have h6 : ER C F5 H5 (σx ++ (some v5 :: (σs ++ σ5))) (ex ++ (.st none R SR a5 :: (es ++ envR i5))) := by
          have z : ER C F5 H5 ([some v5] ++ (σx ++ (σs ++ σ5))) ([.st none R SR a5] ++ (ex ++ (es ++ envR i5))) := by simpa [List.append_assoc] using h5
          exact ER.unrot z hy.len
        exact h6.popN hy.len
    · have e : i = xs.length := by omega
      subst e
      refine .inl ⟨y2 (by simp), out t F2 H2 σ2 ?_ h2⟩
      simpa [forO] using hk2)
end
end Z

set_option Elab.async false
set_option linter.all false
set_option maxRecDepth 100000
namespace Z
open PySem PySem.Spec PyProof.Rows L2

/-! ### and, or, if-else -/
section
variable (X : Cx) {Ω : Type}
def tW (e : Expr) : TT := fun σ H Q => ∀ whole pins s, Inv X pins σ H s → wpAny (model X.prog X.w) X.A (isTrue e X.env whole) (TP X pins σ Q) X.xe s
theorem pwC {e : Expr} : PW X e (tW X e) := ⟨fun whole pins s σ H Q I h => h whole pins s I⟩
theorem tW.of {e : Expr} {t : TT} {σ : L2.St} {H : Hp} {Q : Bool → Hp → Prop} (h : PW X e t) (q : t σ H Q) : tW X e σ H Q := fun whole pins s I => h.run whole pins s σ H Q I q
def LW (env : Env) (e : Expr) {P : Type} (env' : P → Env) (f : (Bool → P → Option Ω) → Option Ω) : Prop :=
  ∀ (C : Ck) (F H : Hp) (σs : List (Option V)) (es : Env) (σ : List (Option V)) (k : Bool → P → Option Ω) (ω : Ω) (Q : Bool → Hp → Prop), C.K = X.K → σs.length = es.length → ER C F H (σs ++ σ) (es ++ env) → f k = some ω →
    (∀ a p F' H', k a p = some ω → ER C F' H' (σs ++ σ) (es ++ env' p) → Q a H') → tW X e σ H Q
end
section
variable {X : Cx} {Ω : Type} {env : Env} {nm : Str} {pos : Pos} {a b c e : Expr} {xs rest : List Expr} {P P1 P2 P3 A : Type} {τ τ1 τ2 α β : Type} {S : Stor τ} {S1 : Stor τ1} {S2 : Stor τ2} {E : Enc τ} {E1 : Enc τ1} {E2 : Enc τ2}
  {G : Env → Prop} {e' : P → Env} {e1 : P1 → Env} {e2 : P1 → P2 → Env} {e3 : P1 → P3 → Env}
theorem lt_w {f : (Bool → P → Option Ω) → Option Ω} (h : LW X env e e' f) : LT X env e e' f :=
  fun C F H σs es σ k ω Q hK hl hr hk q => tT.of X (pwC X).pt (h C F H σs es σ k ω Q hK hl hr hk q)
theorem lw_and1 {f : (Bool → P → Option Ω) → Option Ω} (h : LT X env a e' f) : LW X env (.BoolOp .And [a] pos) e' f :=
  fun C F H σs es σ k ω Q hK hl hr hk q => tW.of X (pw_and1 (ptC X)) (h C F H σs es σ k ω Q hK hl hr hk q)
theorem lw_or1 {f : (Bool → P → Option Ω) → Option Ω} (h : LT X env a e' f) : LW X env (.BoolOp .Or [a] pos) e' f :=
  fun C F H σs es σ k ω Q hK hl hr hk q => tW.of X (pw_or1 (ptC X)) (h C F H σs es σ k ω Q hK hl hr hk q)
theorem lw_and {fa : (Bool → P1 → Option Ω) → Option Ω} {fb : P1 → (Bool → P2 → Option Ω) → Option Ω} (ha : LT X env a e1 fa) (hb : ∀ p1, LW X (e1 p1) (.BoolOp .And (b :: rest) pos) (e2 p1) (fb p1)) (hs : ∀ p1 p2, Sub (e2 p1 p2) (e1 p1)) :
    LW X env (.BoolOp .And (a :: b :: rest) pos) e1 (fun k => fa fun x p1 => if x = true then fb p1 fun y _ => k y p1 else k false p1) :=
  fun C F H σs es σ k ω Q hK hl hr hk q => tW.of X (pw_and (ptC X) (pwC X)) (ha C F H σs es σ _ ω _ hK hl hr hk fun x p1 F' H' hk' h' => by
    cases x with
    | true => rw [if_pos rfl] at hk' ⊢; exact hb p1 C F' H' σs es σ _ ω Q hK hl h' hk' fun y p2 F2 H2 hk2 h2 => q y p1 F2 H2 hk2 (h2.subF (hs p1 p2))
    | false => rw [if_neg Bool.false_ne_true] at hk' ⊢; exact q false p1 F' H' hk' h')
theorem lw_or {fa : (Bool → P1 → Option Ω) → Option Ω} {fb : P1 → (Bool → P2 → Option Ω) → Option Ω} (ha : LT X env a e1 fa) (hb : ∀ p1, LW X (e1 p1) (.BoolOp .Or (b :: rest) pos) (e2 p1) (fb p1)) (hs : ∀ p1 p2, Sub (e2 p1 p2) (e1 p1)) :
    LW X env (.BoolOp .Or (a :: b :: rest) pos) e1 (fun k => fa fun x p1 => if x = true then k true p1 else fb p1 fun y _ => k y p1) :=
  fun C F H σs es σ k ω Q hK hl hr hk q => tW.of X (pw_or (ptC X) (pwC X)) (ha C F H σs es σ _ ω _ hK hl hr hk fun x p1 F' H' hk' h' => by
    cases x with
    | true => rw [if_pos rfl] at hk' ⊢; exact q true p1 F' H' hk' h'
    | false => rw [if_neg Bool.false_ne_true] at hk' ⊢; exact hb p1 C F' H' σs es σ _ ω Q hK hl h' hk' fun y p2 F2 H2 hk2 h2 => q y p1 F2 H2 hk2 (h2.subF (hs p1 p2)))
/-- as values -/
theorem lx_one {op : BoolOp} {f : (Bool → P → Option Ω) → Option Ω} (h : LX X env a (it eB) e' f) : LX X env (.BoolOp op [a] pos) (it eB) e' f :=
  fun C F H σs es σ k ω Q hK hl hr hk q => tE.of X (pe_one (peC X)) (h C F H σs es σ k ω Q hK hl hr hk q)
theorem ER.topB {C : Ck} {F H : Hp} {v : V} {x : Bool} {σ : List (Option V)} {env : Env} (h : ER C F H (some v :: σ) (.st none Bool (it eB) x :: env)) : v = .bl x := by
  obtain ⟨v', fp, e1, r⟩ := h.look (i := 0) rfl
  simp at e1; subst e1
  obtain ⟨_, r⟩ := r
  cases r; rfl
theorem lx_and {fa : (Bool → P1 → Option Ω) → Option Ω} {fb : P1 → (Bool → P2 → Option Ω) → Option Ω} (ha : LX X env a (it eB) e1 fa) (hb : ∀ p1, LX X (e1 p1) (.BoolOp .And (b :: rest) pos) (it eB) (e2 p1) (fb p1)) (hs : ∀ p1 p2, Sub (e2 p1 p2) (e1 p1)) :
    LX X env (.BoolOp .And (a :: b :: rest) pos) (it eB) e1 (fun k => fa fun x p1 => if x = true then fb p1 fun y _ => k y p1 else k false p1) :=
  fun C F H σs es σ k ω Q hK hl hr hk q => tE.of X (pe_and (peC X) (peC X)) (ha C F H σs es σ _ ω _ hK hl hr hk fun x p1 v F' H' hk' h' => by
    refine ⟨x, h'.topB, ?_⟩
    cases x with
    | true => rw [if_pos rfl] at hk' ⊢; exact hb p1 C F' H' σs es σ _ ω Q hK hl h'.pop hk' fun y p2 u F2 H2 hk2 h2 => q y p1 u F2 H2 hk2 (ER.sub h2 (.keep ((hs p1 p2).pre es)))
    | false => rw [if_neg Bool.false_ne_true] at hk' ⊢; exact q false p1 _ F' H' hk' (h'.pop.pushSh (.bl _)))
theorem lx_or {fa : (Bool → P1 → Option Ω) → Option Ω} {fb : P1 → (Bool → P2 → Option Ω) → Option Ω} (ha : LX X env a (it eB) e1 fa) (hb : ∀ p1, LX X (e1 p1) (.BoolOp .Or (b :: rest) pos) (it eB) (e2 p1) (fb p1)) (hs : ∀ p1 p2, Sub (e2 p1 p2) (e1 p1)) :
    LX X env (.BoolOp .Or (a :: b :: rest) pos) (it eB) e1 (fun k => fa fun x p1 => if x = true then k true p1 else fb p1 fun y _ => k y p1) :=
  fun C F H σs es σ k ω Q hK hl hr hk q => tE.of X (pe_or (peC X) (peC X)) (ha C F H σs es σ _ ω _ hK hl hr hk fun x p1 v F' H' hk' h' => by
    refine ⟨x, h'.topB, ?_⟩
    cases x with
    | true => rw [if_pos rfl] at hk' ⊢; exact q true p1 _ F' H' hk' (h'.pop.pushSh (.bl _))
    | false => rw [if_neg Bool.false_ne_true] at hk' ⊢; exact hb p1 C F' H' σs es σ _ ω Q hK hl h'.pop hk' fun y p2 u F2 H2 hk2 h2 => q y p1 u F2 H2 hk2 (ER.sub h2 (.keep ((hs p1 p2).pre es))))
theorem lx_not {f : (Bool → P → Option Ω) → Option Ω} (h : LX X env a (it eB) e' f) : LX X env (.UnaryOp .Not a pos) (it eB) e' (fun k => f fun x p => k (!x) p) :=
  fun C F H σs es σ k ω Q hK hl hr hk q => tE.of X (pe_not (peC X)) (h C F H σs es σ _ ω _ hK hl hr hk fun x p v F' H' hk' h' => ⟨x, h'.topB, q _ p _ F' H' hk' (h'.pop.pushSh (.bl _))⟩)
theorem lx_if {fc : (Bool → P1 → Option Ω) → Option Ω} {fa : P1 → (τ → P2 → Option Ω) → Option Ω} {fb : P1 → (τ → P3 → Option Ω) → Option Ω} (hc : LT X env c e1 fc) (ha : ∀ p1, LX X (e1 p1) a S (e2 p1) (fa p1)) (hb : ∀ p1, LX X (e1 p1) b S (e3 p1) (fb p1))
    (hs : ∀ p1 p2, Sub (e2 p1 p2) (e1 p1)) (hs3 : ∀ p1 p3, Sub (e3 p1 p3) (e1 p1)) :
    LX X env (.IfExp c a b pos) S e1 (fun k => fc fun x p1 => if x = true then fa p1 fun y _ => k y p1 else fb p1 fun y _ => k y p1) :=
  fun C F H σs es σ k ω Q hK hl hr hk q => tE.of X (pe_ifExp (ptC X) (peC X) (peC X)) (hc C F H σs es σ _ ω _ hK hl hr hk fun x p1 F' H' hk' h' => by
    cases x with
    | true => rw [if_pos rfl] at hk' ⊢; exact ha p1 C F' H' σs es σ _ ω Q hK hl h' hk' fun y p2 u F2 H2 hk2 h2 => q y p1 u F2 H2 hk2 (ER.sub h2 (.keep ((hs p1 p2).pre es)))
    | false => rw [if_neg Bool.false_ne_true] at hk' ⊢; exact hb p1 C F' H' σs es σ _ ω Q hK hl h' hk' fun y p2 u F2 H2 hk2 h2 => q y p1 u F2 H2 hk2 (ER.sub h2 (.keep ((hs3 p1 p2).pre es))))
end

/-! ### while; stores into own lists -/
section
variable {C : Ck} {F F' H H' : Hp} {σ : List (Option V)} {env : Env} {o : Option V} {τ τ0 : Type} {S : Stor τ} {S0 : Stor τ0} {x : τ} {y : τ0} {v : V} {w : Option V} {i : Nat}
/-- the stack's top goes into the objects of slot i -/
theorem ER.absorb (h : ER C F H (o :: σ) (.st none τ0 S0 y :: env)) (e : env[i]? = some (.st w τ S x)) : ∃ v fp v0 fq, σ[i]? = some (some v) ∧ o = some v0 ∧ S.rel C.K F H fp v x ∧ S0.rel C.K F H fq v0 y ∧ (fp ++ fq).Nodup ∧ (∀ a ∈ fp ++ fq, C.B a = none ∧ F a = none ∧ H a ≠ none) ∧
    ∀ (τ' : Type) (S' : Stor τ') (x' : τ') (H' : Hp) (fp' : List Addr), (∀ a, a ∉ fp ++ fq → H a ≠ none → H' a = H a) → (∀ a, H a ≠ none → H' a ≠ none) → S'.rel C.K F H' fp' v x' → fp'.Nodup → (∀ a ∈ fp', H' a ≠ none ∧ (a ∈ fp ++ fq ∨ H a = none)) → ER C F H' σ (env.set i (.st w τ' S' x')) := by
  obtain ⟨fp, q⟩ := h.sl
  obtain ⟨hi, _⟩ := List.getElem?_eq_some_iff.mp e
  obtain ⟨v, e1, r, k⟩ := q.ok (i + 1) _ (by simpa using e)
  obtain ⟨v0, e0, r0, k0⟩ := q.ok 0 _ rfl
  have e1' : σ[i]? = some (some v) := by
    simp at e1
    cases z : σ[i]? with
    | none => rw [z] at e1; cases e1
    | some o => rw [z] at e1; exact congrArg some e1
  have e0' : o = some v0 := by simpa using e0
  have hi1 : i + 1 < (Slot.st none τ0 S0 y :: env).length := by simpa using hi
  have h00 : 0 < (Slot.st none τ0 S0 y :: env).length := by simp
  have ownu : ∀ a ∈ fp (i + 1) ++ fp 0, C.B a = none ∧ F a = none ∧ H a ≠ none := fun a m => by
    rcases List.mem_append.mp m with m | m
    · exact q.own (i + 1) hi1 a m
    · exact q.own 0 h00 a m
  have ndu : (fp (i + 1) ++ fp 0).Nodup := by
    rw [List.nodup_append]
    refine ⟨q.nd (i + 1) hi1, q.nd 0 h00, fun a ha b hb z => ?_⟩
    subst z
    have := q.sep (i + 1) 0 hi1 h00 a ha hb
    omega
  refine ⟨v, fp (i + 1), v0, fp 0, e1', e0', r, r0, ndu, ownu, fun τ' S' x' H' fp' hk hs r' nd' sub => ?_⟩
  have hp := h.pop
  have bne : ∀ a, C.B a ≠ none → a ∉ fp (i + 1) ++ fp 0 := fun a m z => m (ownu a z).1
  have notu : ∀ j, j < env.length → j ≠ i → ∀ a ∈ fp (j + 1), a ∉ fp (i + 1) ++ fp 0 := fun j hj ne a ha z => by
    have hj1 : j + 1 < (Slot.st none τ0 S0 y :: env).length := by simpa using hj
    rcases List.mem_append.mp z with z | z
    · have := q.sep (j + 1) (i + 1) hj1 hi1 a ha z; omega
    · have := q.sep (j + 1) 0 hj1 h00 a ha z; omega
  refine ⟨fun a o m => ?_, fun a o m => ?_, h.gr, fun a m => hs a (h.up a m), by simp [hp.len], fun j => if j = i then fp' else fp (j + 1), fun j s' ej => ?_, fun j hj a ha => ?_, fun j l hj hl a ha hb => ?_, fun j hj => ?_⟩
  · have m' : C.B a ≠ none := by rw [m]; exact fun z => by cases z
    rw [hk a (bne a m') (same_some h.sB m')]; exact h.sB a o m
  · have m' : F a ≠ none := by rw [m]; exact fun z => by cases z
    rw [hk a (fun z => m' (ownu a z).2.1) (same_some h.sF m')]; exact h.sF a o m
  · by_cases z : j = i
    · subst z
      rw [List.getElem?_set_self hi] at ej
      cases ej
      refine ⟨v, by rw [e1']; rfl, ?_, ?_⟩
      · simpa using r'
      · simp only [if_pos]
        cases w with
        | none =>
          intro a ha
          rcases (sub a ha).2 with m | m
          · rcases List.mem_append.mp m with m | m
            · exact k a m
            · exact k0 a m
          · exact h.hnone m
        | some w0 =>
          refine ⟨k.1, fun a ha => ?_⟩
          rcases (sub a ha).2 with m | m
          · rcases List.mem_append.mp m with m | m
            · exact k.2 a m
            · exact .inl (k0 a m)
          · exact .inl (h.hnone m)
    · rw [List.getElem?_set_ne (fun y => z y.symm)] at ej
      have hj : j < env.length := (List.getElem?_eq_some_iff.mp ej).1
      simp only [if_neg z]
      have := q.ok (j + 1) s' (by simpa using ej)
      simp only [List.getElem?_cons_succ] at this
      refine this.go (fun _ _ y => y) (fun a m => hk a (bne a m) (same_some h.sB m)) fun a ha => ?_
      exact hk a (notu j hj z a ha) (q.own (j + 1) (by simpa using hj) a ha).2.2
  · have hj' : j < env.length := by simpa using hj
    by_cases z : j = i
    · subst z
      simp only [if_pos] at ha
      obtain ⟨m1, m⟩ := sub a ha
      rcases m with m | m
      · exact ⟨(ownu a m).1, (ownu a m).2.1, m1⟩
      · exact ⟨h.bnone m, h.fnone m, m1⟩
    · simp only [if_neg z] at ha
      obtain ⟨b, f, c⟩ := q.own (j + 1) (by simpa using hj') a ha
      exact ⟨b, f, hs a c⟩
  · have hj' : j < env.length := by simpa using hj
    have hl' : l < env.length := by simpa using hl
    by_cases zj : j = i
    · by_cases zl : l = i
      · rw [zj, zl]
      · simp only [if_pos zj] at ha
        simp only [if_neg zl] at hb
        rcases (sub a ha).2 with m | m
        · exact absurd m (notu l hl' zl a hb)
        · exact absurd m (q.own (l + 1) (by simpa using hl') a hb).2.2
    · simp only [if_neg zj] at ha
      by_cases zl : l = i
      · simp only [if_pos zl] at hb
        rcases (sub a hb).2 with m | m
        · exact absurd m (notu j hj' zj a ha)
        · exact absurd m (q.own (j + 1) (by simpa using hj') a ha).2.2
      · simp only [if_neg zl] at hb
        have := q.sep (j + 1) (l + 1) (by simpa using hj') (by simpa using hl') a ha hb
        omega
  · have hj' : j < env.length := by simpa using hj
    by_cases z : j = i
    · simp only [if_pos z]; exact nd'
    · simp only [if_neg z]; exact q.nd (j + 1) (by simpa using hj')
theorem RelAll.app {α : Type} {R : List Addr → V → α → Prop} : ∀ {fp : List Addr} {vs : List V} {xs : List α} {fq : List Addr} {v : V} {x : α}, RelAll R fp vs xs → R fq v x → RelAll R (fp ++ fq) (vs ++ [v]) (xs ++ [x])
  | _, _, _, fq, v, x, .nil, h => by simpa using RelAll.cons h .nil
  | _, _, _, fq, v, x, .cons h r, q => by
    rw [List.append_assoc]
    exact .cons h (r.app q)
theorem RelAll.length {α : Type} {R : List Addr → V → α → Prop} : ∀ {fp : List Addr} {vs : List V} {xs : List α}, RelAll R fp vs xs → vs.length = xs.length
  | _, _, _, .nil => rfl
  | _, _, _, .cons _ r => congrArg (· + 1) r.length
end
def SZ : Nat := 16777216
theorem SZ_eq : sizeLine = SZ := sizeLine_eq
section
variable {X : Cx} {R I Ω : Type} {SR : Stor R} {envR : I → Env} {kr : R → I → Option Ω} {bk ct : Lp Ω} {env : Env} {nm : Str} {pos : Pos} {c e tg iter : Expr} {sts sa sb rest : List Stmt} {P P1 P2 A : Type} {τ α : Type} {S : Stor τ} {Sa : Stor α} {e' : P → Env} {ix : List Nat} {J J1 : Type} {envJ : J → Env} {env1 : J1 → Env}
/-- a while, with fuel n -/
theorem lb_while {T Pt : Type} {envT : T → Env} {eT : T → Pt → Env} {fc : T → (Bool → Pt → Option Ω) → Option Ω} {fb : T → Pt → (T → Option Ω) → (T → Option Ω) → (T → Option Ω) → Option Ω} {fr : T → (J → Option Ω) → Option Ω} (n : Nat)
    (hp : PassesOwn (model X.prog X.w) X.A X.env X.xe) (t0 : T) (h0 : Sub env (envT t0)) (hc : ∀ t, LT X (envT t) c (eT t) (fc t)) (hx : ∀ t p, Sub (eT t p) (envT t))
    (hb : ∀ t p kc kb, LB X SR envR kr ⟨T, envT, kb⟩ ⟨T, envT, kc⟩ (eT t p) sts envT (fun kn => fb t p kn kc kb)) (hr : ∀ t, LB X SR envR kr bk ct (envT t) rest envJ (fr t)) :
    LB X SR envR kr bk ct env (.While c sts [] pos :: rest) envJ (fun kn => whileO n t0 fun t kc => fc t fun b p => if b = true then fb t p kc kc fun t' => fr t' kn else fr t kn) :=
  fun C F H σs es σ kn ω D hK hl h hk qn qb qc qr => tSs.of X (pss_cons (ps_while hp (ptC X) (pssC X)) (pssC X)) (by
    have out : ∀ t F2 H2 σ2, fr t kn = some ω → ER C F2 H2 (σs ++ σ2) (es ++ envT t) → tSs X rest D σ2 H2 := fun t F2 H2 σ2 hk2 h2 =>
      hr t C F2 H2 σs es σ2 kn ω D hK hl h2 hk2 qn qb qc qr
    refine ⟨fun m σ2 H2 => ∃ t F2, ER C F2 H2 (σs ++ σ2) (es ++ envT t) ∧ whileO m t (fun t kc => fc t fun b p => if b = true then fb t p kc kc fun t' => fr t' kn else fr t kn) = some ω, ⟨n, t0, F, h.subF h0, hk⟩, ?_⟩
    rintro m σ2 H2 ⟨t, F2, h2, hk2⟩
    cases m with
    | zero => cases hk2
    | succ m =>
      refine hc t C F2 H2 σs es σ2 _ ω _ hK hl h2 hk2 fun b p F3 H3 hk3 h3 => ?_
      cases b with
      | true =>
        rw [if_pos rfl] at hk3 ⊢
        refine ⟨fun σ4 H4 => ∃ t F4, ER C F4 H4 (σs ++ σ4) (es ++ envT t) ∧ whileO m t (fun t kc => fc t fun b p => if b = true then fb t p kc kc fun t' => fr t' kn else fr t kn) = some ω, fun σ4 H4 ⟨t4, F4, h4, hk4⟩ => ⟨m, Nat.lt_succ_self m, t4, F4, h4, hk4⟩, ?_⟩
        refine hb t p (fun s' => whileO m s' fun t kc => fc t fun b p => if b = true then fb t p kc kc fun t' => fr t' kn else fr t kn) (fun t' => fr t' kn) C F3 H3 σs es σ2 _ ω _ hK hl h3 hk3 ?_ ?_ ?_ ?_
        · intro t5 F5 H5 σ5 hk5 h5; exact ⟨t5, F5, h5, hk5⟩
        · intro t5 F5 H5 σ5 hk5 h5; exact out t5 F5 H5 σ5 hk5 h5
        · intro t5 F5 H5 σ5 hk5 h5; exact ⟨t5, F5, h5, hk5⟩
        · intro a5 i5 v5 F5 H5 σ5 hk5 h5; exact qr a5 i5 v5 F5 H5 σ5 hk5 h5
      | false =>
        rw [if_neg Bool.false_ne_true] at hk3 ⊢
        exact out t F3 H3 σ2 hk3 (h3.subF (hx t p)))
/-- x.append(e), x a list of one's own -/
theorem lb_app {f : (α → P → Option Ω) → Option Ω} {fr : α → P → (J → Option Ω) → Option Ω} {w : Option V} {x0 : List α} {xs : P → List α} {ap cp np : Pos} (i : Nat) (h0 : env[i]? = some (.st w (List α) (ls Sa) x0))
    (he : LX X env e Sa e' f) (h1 : ∀ p, (e' p)[i]? = some (.st w (List α) (ls Sa) (xs p))) (hr : ∀ y p, LB X SR envR kr bk ct ((e' p).set i (.st w (List α) (ls Sa) (xs p ++ [y]))) rest envJ (fr y p))
    (hN : X.N[i]? = some nm := by rfl) (hv : Vis X.env.scope nm := by first | exact Or.inl rfl | exact Or.inr (Or.inl rfl) | exact Or.inr (Or.inr rfl))
    (hd : (nm == ("__debug__" : Str)) = false := by decide) (hcd : (nm == ("__classdict__" : Str)) = false := by decide)
    (hbase : attributeBase (.Name nm np) "append" X.env (eval (.Name nm np) X.env) = eval (.Name nm np) X.env := by rfl)
    (hfew : ((backTo cp (starEach [e] X.env)).all (fun x => !x.1) && (backToKw cp (keywordEach [] X.env)).all (fun x => x.1.isSome) && decide ([e].length + ([] : List Keyword).length + (if ([] : List Keyword).isEmpty then 0 else 1) < 30)) = true := by rfl)
    (hline : (ap.endLine == cp.line) = true := by rfl) (hse : starEach [e] X.env = (false, eval e X.env) :: starEach [] X.env := by rfl) (hplain : (backTo cp (starEach [] X.env)).any (·.1) = false := by rfl)
    (hsw : swapsWith (.Call (.Attribute (.Name nm np) "append" ap) [e] [] cp) none pos.line X.env = pure false := by rfl) :
    LB X SR envR kr bk ct env (.Expr (.Call (.Attribute (.Name nm np) "append" ap) [e] [] cp) pos :: rest) envJ (fun kn => f fun y p => ck (decide ((xs p).length < SZ)) (fr y p kn)) :=
  fun C F H σs es σ kn ω D hK hl h hk qn qb qc qr => tSs.of X (pss_cons (ps_expr (pe_bm PySem.F.plainAttrs_list PySem.F.slot_list_append PySem.F.type_list_append mt_append (pe_var hN hv hd hcd) (pa_cons (peC X) pa_nil hse) hbase hfew hline hse hplain) hsw) (pssC X)) (by
    obtain ⟨l, fp, e1, r⟩ := h.lookF hl h0
    obtain ⟨q0, vs0, fps0, rfl, hq0, _, _⟩ := r
    refine ⟨_, e1, .inl ⟨rfl, vs0, SqL.of hq0⟩, he C F H σs es σ _ ω _ hK hl h hk fun y p v F' H' hk' h' => ?_⟩
    obtain ⟨hc, hk'⟩ := ck_some hk'
    obtain ⟨v', fp', v0, fq, e2, e3, r1, r2, nd, ow, fin⟩ := h'.absorb (i := es.length + i) (by rw [at_app _ rfl]; exact h1 p)
    rw [at_app _ hl, e1] at e2
    cases e2; cases e3
    obtain ⟨q1, vs, fps, e4, hq, ra, rfl⟩ := r1
    cases e4
    have hlen := ra.length
    have hc' := of_decide_eq_true hc
    refine ⟨_, vs, _, rfl, rfl, hq, by rw [SZ_eq]; omega, ?_⟩
    have fin' := fin (List α) (ls Sa) (xs p ++ [y]) (upd H' q0 (.lst (vs ++ [v]))) (q0 :: (fps ++ fq)) (fun a na _ => upd_ne fun z => na (by rw [z]; simp)) (fun a m => ?_) ?_ (by simpa using nd) (fun a m => ?_)
    · rw [List.set_append_right _ _ (Nat.le_add_right _ _), Nat.add_sub_cancel_left] at fin'
      exact hr y p C F' _ σs es σ kn ω D hK hl fin' hk' qn qb qc qr
    · by_cases z : a = q0
      · subst z; rw [upd_same]; exact fun z => by cases z
      · rw [upd_ne z]; exact m
    · have nm : q0 ∉ fps ++ fq := by
        have : (q0 :: (fps ++ fq)).Nodup := by simpa using nd
        exact (List.nodup_cons.mp this).1
      refine ⟨q0, vs ++ [v], fps ++ fq, rfl, upd_same, RelAll.imp (fun fr' v' x' s q => Sa.frame (fun a m => upd_ne fun z => nm (z ▸ s a m)) q) (ra.app r2), rfl⟩
    · refine ⟨?_, .inl (by simpa using m)⟩
      by_cases z : a = q0
      · subst z; rw [upd_same]; exact fun z => by cases z
      · rw [upd_ne z]; exact (ow a (by simpa using m)).2.2)
/-- x[j] = e, x a list of one's own whose items are shared -/
theorem lb_setix {E : Enc α} {f : (α → P1 → Option Ω) → Option Ω} {f2 : α → P1 → (Int → P2 → Option Ω) → Option Ω} {fr : α → P1 → Int → P2 → List α → (J → Option Ω) → Option Ω} {e1 : P1 → Env} {e2 : α → P1 → P2 → Env} {w : Option V} {x1 : P1 → List α} {xs : α → P1 → P2 → List α} {ie : Expr} {np sp : Pos} (i : Nat)
    (he : LX X env e (it E) e1 f) (h1 : ∀ p, (e1 p)[i]? = some (.st w (List α) (ls (it E)) (x1 p))) (hi : ∀ y p, LX X (e1 p) ie (it eI) (e2 y p) (f2 y p)) (h2 : ∀ y p p2, (e2 y p p2)[i]? = some (.st w (List α) (ls (it E)) (xs y p p2)))
    (hr : ∀ y p j p2 zs, LB X SR envR kr bk ct ((e2 y p p2).set i (.st w (List α) (ls (it E)) zs)) rest envJ (fr y p j p2 zs))
    (hN : X.N[i]? = some nm := by rfl) (hv : Vis X.env.scope nm := by first | exact Or.inl rfl | exact Or.inr (Or.inl rfl) | exact Or.inr (Or.inr rfl))
    (hd : (nm == ("__debug__" : Str)) = false := by decide) (hcd : (nm == ("__classdict__" : Str)) = false := by decide)
    (ha : ∀ v, assign (.Subscript (.Name nm np) ie sp) X.env v = (do
      let ov ← holding [v] (eval (.Name nm np) X.env)
      let iv ← holding [v, ov] (eval ie X.env)
      standAt sp
      holding [v, ov, iv] (setItem ov iv v)
      release [v, ov, iv] []) := by intro _; rfl)
    (hs : swapsWithSole [.Subscript (.Name nm np) ie sp] e pos.line X.env = pure false := by rfl) (hw : swappedStores [.Subscript (.Name nm np) ie sp] e X.env = pure none := by rfl) (ha1 : (assignEach [.Subscript (.Name nm np) ie sp] X.env).map (·.2) = [assign (.Subscript (.Name nm np) ie sp) X.env] := by rfl) :
    LB X SR envR kr bk ct env (.Assign [.Subscript (.Name nm np) ie sp] e pos :: rest) envJ (fun kn => f fun y p => f2 y p fun j p2 => (ixN (xs y p p2).length j).bind fun n => fr y p j p2 ((xs y p p2).set n y) kn) :=
  fun C F H σs es σ kn ω D hK hl h hk qn qb qc qr => tSs.of X (pss_cons (ps_asg (peC X) (pg_sub (pe_var hN hv hd hcd) (peC X) set_list ha) hs hw ha1) (pssC X)) (he C F H σs es σ _ ω _ hK hl h hk fun y p v F' H' hk' h' => by
    obtain ⟨l, fp, e3, r⟩ := h'.pop.lookF hl (h1 p)
    refine ⟨l, e3, hi y p C F' H' (some v :: σs) (.st none α (it E) y :: es) σ _ ω _ hK (by simp [hl]) h' hk' fun j p2 u F2 H2 hk2 h3 => ?_⟩
    obtain ⟨n, hn, hk2⟩ := bind_some hk2
    have hu : u = .int j := by
      obtain ⟨v', fp, e1, r⟩ := h3.look (i := 0) rfl
      simp at e1; subst e1
      obtain ⟨_, r⟩ := r
      cases r; rfl
    subst hu
    have hv' : Rep C.K F2 v (E.enc y) := by
      obtain ⟨v', fp, e1, r⟩ := h3.look (i := 1) rfl
      simp at e1; subst e1
      exact r.2
    have h4 : ER C F2 H2 (σs ++ σ) (es ++ e2 y p p2) := h3.pop.pop
    obtain ⟨l', fp', e4, r1, nd, ow, fin⟩ := h4.mut (i := es.length + i) (by rw [at_app _ rfl]; exact h2 y p p2)
    rw [at_app _ hl, e3] at e4
    cases e4
    obtain ⟨q1, vs, fps, rfl, hq, ra, rfl⟩ := r1
    obtain ⟨rfl, rp⟩ := ra.zero
    have hlen : vs.length = (xs y p p2).length := by have := rp.length; simpa using this
    refine ⟨q1, vs, j, n, rfl, rfl, hq, by rw [hlen]; exact hn, ?_⟩
    have fin' := fin (List α) (ls (it E)) ((xs y p p2).set n y) (upd H2 q1 (.lst (vs.set n v))) [q1] (fun a na _ => upd_ne fun z => na (by rw [z]; simp)) (fun a m => ?_) ⟨q1, vs.set n v, [], rfl, upd_same, ?_, rfl⟩ (by simp) (fun a m => ?_)
    · rw [List.set_append_right _ _ (Nat.le_add_right _ _), Nat.add_sub_cancel_left] at fin'
      exact hr y p j p2 _ C F2 _ σs es σ kn ω D hK hl fin' hk2 qn qb qc qr
    · by_cases z : a = q1
      · subst z; rw [upd_same]; exact fun z => by cases z
      · rw [upd_ne z]; exact m
    · have := rp.set hv' (i := n)
      rw [← List.map_set] at this
      exact this.zero
    · simp at m; subst m
      exact ⟨by rw [upd_same]; exact (fun z => by cases z), .inl (by simp)⟩)
end
end Z

set_option Elab.async false
set_option linter.all false
set_option maxRecDepth 100000
namespace Z
open PySem PySem.Spec PyProof.Rows L2

/-! ### calls of defs -/
/-- slots that own nothing -/
inductive ShE : Env → Prop
  | nil : ShE []
  | cons {τ : Type} {S : Stor τ} {x : τ} {en : Env} : Cp S → ShE en → ShE (.st none τ S x :: en)
theorem ShE.slot : ∀ {en : Env}, ShE en → ∀ (i : Nat) (s : Slot), en[i]? = some s → ∃ (τ : Type) (S : Stor τ) (x : τ), s = Slot.st none τ S x ∧ Cp S
  | _, .nil, i, s, e => by simp at e
  | _, .cons cp r, 0, s, e => ⟨_, _, _, by simp at e; exact e.symm, cp⟩
  | _, .cons cp r, i + 1, s, e => r.slot i s (by simpa using e)
section
variable {C : Ck} {F F' H H' : Hp} {σ : List (Option V)} {env : Env} {o : Option V} {τ τ0 R : Type} {S : Stor τ} {S0 : Stor τ0} {SR : Stor R} {x : τ} {y : τ0} {v : V} {w : Option V} {i : Nat} {r : R}
theorem lt_of_get {α : Type _} {l : List α} {i : Nat} {a : α} (h : l[i]? = some a) : i < l.length := (List.getElem?_eq_some_iff.mp h).1
/-- into a def: its arguments are shared -/
theorem ER.enter {σa : List (Option V)} {ea : Env} (h : ER C F H (σa ++ σ) (ea ++ env)) (hl : σa.length = ea.length) (sh : ShE ea) : ER ⟨C.K, H, F, H, []⟩ F H σa ea := by
  obtain ⟨fp, q⟩ := h.sl
  refine ⟨fun _ _ e => e, h.sF, fun a m => .inl m, fun a m => m, hl, fun _ => [], fun j s e => ?_, fun j hj a ha => (nomatch ha), fun j l _ _ a ha => (nomatch ha), fun j _ => List.nodup_nil⟩
  have hj := lt_of_get e
  obtain ⟨τ, S, x, rfl, cp⟩ := sh.slot j s e
  obtain ⟨v, e1, r, _⟩ := q.ok j _ (by rw [List.getElem?_append_left hj]; exact e)
  rw [List.getElem?_append_left (by omega)] at e1
  have z := cp.nil r
  rw [z] at r
  exact ⟨v, e1, r, fun _ m => nomatch m⟩
def hun (F G : Hp) : Hp := fun a => match F a with
  | some o => some o
  | none => G a
theorem same_hunL : Same F (hun F F') := fun a o e => by unfold hun; rw [e]
theorem same_hunR (s : Same F H) (s' : Same F' H) : Same F' (hun F F') := fun a o e => by
  unfold hun
  cases q : F a with
  | none => exact e
  | some u =>
    have h1 := s a u q
    have h2 := s' a o e
    rw [h1] at h2
    exact h2
theorem hun_same (s : Same F H) (s' : Same F' H) : Same (hun F F') H := fun a o e => by
  unfold hun at e
  cases q : F a with
  | none => rw [q] at e; exact s' a o e
  | some u' =>
    rw [q] at e
    have e' : u' = o := Option.some.inj e
    rw [← e']
    exact s a u' q
theorem hun_some {a : Addr} (h : hun F F' a ≠ none) : F a ≠ none ∨ F' a ≠ none := by
  unfold hun at h
  cases q : F a with
  | none => rw [q] at h; exact .inr h
  | some u => exact .inl (by intro z; cases z)
theorem hun_none {a : Addr} (h : F a = none) (h' : F' a = none) : hun F F' a = none := by
  unfold hun; rw [h]; exact h'
/-- out of it -/
theorem ER.back (h : ER C F H σ env) (hc : ER ⟨C.K, H, F, H, []⟩ F' H' [some v] [.st none R SR r]) : ∃ F'', ER C F'' H' (some v :: σ) (.st none R SR r :: env) := by
  have sFH : Same F H' := fun a o e => hc.sB a o (h.sF a o e)
  have nw : ∀ a, hun F F' a ≠ none → F a ≠ none ∨ H a = none := fun a m => by
    rcases hun_some m with z | z
    · exact .inl z
    · exact hc.gr a z
  have h2 := h.grow (F' := hun F F') (H' := H') hc.sB same_hunL (hun_same sFH hc.sF) nw
  obtain ⟨fp, q⟩ := h.sl
  have q2 := q.grow h hc.sB (F' := hun F F') same_hunL nw
  obtain ⟨fq, qc⟩ := hc.sl
  obtain ⟨v', e1, rr, ne⟩ := qc.ok 0 _ rfl
  simp at e1; subst e1
  refine ⟨hun F F', h2.sB, h2.sF, h2.gr, h2.up, by simp [h2.len], _, q2.push (fq := fq 0) ⟨v, rfl, SR.monoF (same_hunR sFH hc.sF) rr, fun a m => h.hnone (ne a m)⟩ (fun a m => ?_) (qc.nd 0 (by simp)) fun j hj a ha m => ?_⟩
  · obtain ⟨b, f, c⟩ := qc.own 0 (by simp) a m
    exact ⟨h.bnone b, hun_none (h.fnone b) f, c⟩
  · exact (q.own j hj a ha).2.2 (ne a m)
/-- the promise of a def over shared arguments -/
def spP (K : Fg) {A R : Type} (sl : A → Env) (SR : Stor R) (m : A → Option R) : Sp := fun vs H Q _ => ∃ (B F : Hp) (a : A) (r : R), m a = some r ∧ (vs.map some).length = (sl a).length ∧ ER ⟨K, B, F, H, []⟩ F H (vs.map some) (sl a) ∧
  ∀ F' H' v, ER ⟨K, B, F, H, []⟩ F' H' [some v] [.st none R SR r] → Q v H'
/-- .. that changes its first argument -/
def spI (K : Fg) {A T R : Type} (ST : Stor T) (sl : A → Env) (SR : Stor R) (m : T → A → Option (R × T)) : Sp := fun vs H Q _ => ∃ (B F : Hp) (io : List Addr) (t : T) (a : A) (r : R) (t' : T) (v0 : V) (vs' : List V), vs = v0 :: vs' ∧ m t a = some (r, t') ∧ (vs'.map some).length = (sl a).length ∧
  ER ⟨K, B, F, H, io⟩ F H (vs.map some) (.st (some v0) T ST t :: sl a) ∧ ∀ F' H' v, ER ⟨K, B, F, H, io⟩ F' H' [some v, some v0] [.st none R SR r, .st (some v0) T ST t'] → Q v H'
theorem ER.head {s : Slot} (h : ER C F H (o :: σ) (s :: env)) : ER C F H [o] [s] :=
  h.perm rfl id fun j s' e => by
    cases j with
    | zero => exact .inr ⟨by simpa using e, rfl, fun l _ el _ z => by simpa using z⟩
    | succ j => simp at e
theorem ER.head2 {o2 : Option V} {s s2 : Slot} (h : ER C F H (o :: o2 :: σ) (s :: s2 :: env)) : ER C F H [o, o2] [s, s2] :=
  h.perm rfl id fun j s' e => by
    match j, e with
    | 0, e => exact .inr ⟨by simpa using e, rfl, fun l _ el _ z => by simpa using z⟩
    | 1, e => exact .inr ⟨by simpa using e, rfl, fun l _ el _ z => by simpa using z⟩
    | j + 2, e => simp at e
theorem ER.padR (h : ER C F H σ env) : ∀ n : Nat, ER C F H (σ ++ List.replicate n none) (env ++ List.replicate n .un) := fun n =>
  h.perm (by simp [h.len]) id fun j s' e => by
    by_cases z : j < env.length
    · rw [List.getElem?_append_left z] at e
      exact .inr ⟨e, by rw [List.getElem?_append_left (by rw [h.len]; exact z)]; rfl, fun l _ _ _ y => y⟩
    · rw [List.getElem?_append_right (by omega), List.getElem?_replicate] at e
      split at e
      · exact .inl (Option.some.inj e).symm
      · cases e
end

section
variable {P : Program} {w : World} {K : Fg} {mg : Str → Option Value} {base : Heap}
/-- THE RULE for a def over shared arguments: its body walked -/
theorem fnP {x qual : Str} {st : Stmt} {f : Addr} {fd : FuncData} {N ps : List Str} {k : Nat} {A R : Type} {sl : A → Env} {SR : Stor R} {m : A → Option R} (F : Fun K x qual st f fd) (S : FnScope N ps (defScope st)) (n : Nat) (hn : N.length - ps.length = n) (hl : ∀ a, (sl a).length = ps.length)
    (hb : ∀ (cdv : Value) (A' : Around) (outer : List PySem.Env) (s : Shared) (H : Hp) (E : XK), Room k (A'.deeper (envOfC qual (defScope st) s.heap.objs.size f cdv)) → ∀ a : A,
      LB (cxOf CX0 P w K mg base N qual (defScope st) f cdv A' outer s H E).nox SR (fun _ : Unit => List.replicate (ps.length + n) .un) (fun (r : R) (_ : Unit) => some r) (noLp R) (noLp R) (sl a ++ List.replicate n .un) (defBody st) (fun z : Empty => z.elim) (fun _ => m a)) :
    FnOk P w K mg base CX0 (k + 1) f fd ps (spP K sl SR m) := by
  have hlen : ∀ vs H Q E, spP K sl SR m vs H Q E → vs.length = ps.length := fun vs H Q E h => by
    obtain ⟨B, F0, a, r, _, h2, _⟩ := h
    rw [List.length_map] at h2; rw [h2, hl a]
  refine F.ok S hlen fun cdv A' outer s H vs Q E hr h => ?_
  have hlv := hlen vs H Q E h
  obtain ⟨B, F0, a, r, hm, _, her, q⟩ := h
  refine ⟨_, pssC _, ?_⟩
  have hst : L2.start N vs = vs.map some ++ List.replicate n none := by unfold L2.start; rw [hlv, hn]
  rw [hst]
  refine hb cdv A' outer s H E hr a ⟨K, B, F0, H, []⟩ F0 H [] [] _ (fun z => z.elim) r { nx := fun _ H' => Q .non H', rt := Q } rfl rfl (her.padR n) hm (fun z => z.elim) (fun z => z.elim) (fun z => z.elim) ?_
  intro a' i v F' H' σ' e h'
  cases e
  exact q F' H' v h'.head
/-- .. that changes its first argument -/
theorem fnI {x qual : Str} {st : Stmt} {f : Addr} {fd : FuncData} {N ps : List Str} {k : Nat} {A T R : Type} {ST : Stor T} {sl : A → Env} {SR : Stor R} {m : T → A → Option (R × T)} (F : Fun K x qual st f fd) (S : FnScope N ps (defScope st)) (n : Nat) (hn : N.length - ps.length = n) (hl : ∀ a, (sl a).length + 1 = ps.length)
    (hb : ∀ (cdv : Value) (A' : Around) (outer : List PySem.Env) (s : Shared) (H : Hp) (E : XK), Room k (A'.deeper (envOfC qual (defScope st) s.heap.objs.size f cdv)) → ∀ (v0 : V) (t : T) (a : A),
      LB (cxOf CX0 P w K mg base N qual (defScope st) f cdv A' outer s H E).nox SR (fun t' : T => .st (some v0) T ST t' :: List.replicate (N.length - 1) .un) (fun (r : R) (t' : T) => some (r, t')) (noLp (R × T)) (noLp (R × T)) (.st (some v0) T ST t :: (sl a ++ List.replicate n .un)) (defBody st) (fun z : Empty => z.elim) (fun _ => m t a)) :
    FnOk P w K mg base CX0 (k + 1) f fd ps (spI K ST sl SR m) := by
  have hlen : ∀ vs H Q E, spI K ST sl SR m vs H Q E → vs.length = ps.length := fun vs H Q E h => by
    obtain ⟨B, F0, io, t, a, r, t', v0, vs', rfl, _, h2, _⟩ := h
    rw [List.length_map] at h2; rw [List.length_cons, h2, hl a]
  refine F.ok S hlen fun cdv A' outer s H vs Q E hr h => ?_
  have hlv := hlen vs H Q E h
  obtain ⟨B, F0, io, t, a, r, t', v0, vs', rfl, hm, _, her, q⟩ := h
  refine ⟨_, pssC _, ?_⟩
  have hst : L2.start N (v0 :: vs') = (v0 :: vs').map some ++ List.replicate n none := by unfold L2.start; rw [hlv, hn]
  rw [hst]
  refine hb cdv A' outer s H E hr v0 t a ⟨K, B, F0, H, io⟩ F0 H [] [] _ (fun z => z.elim) (r, t') { nx := fun _ H' => Q .non H', rt := Q } rfl rfl (her.padR n) hm (fun z => z.elim) (fun z => z.elim) (fun z => z.elim) ?_
  intro a' i v F' H' σ' e h'
  cases e
  have hls : σ'.length = N.length - 1 + 1 := by have := h'.len; simpa using this
  cases σ' with
  | nil => simp at hls
  | cons o σ' =>
    have h3 : ER ⟨K, B, F0, H, io⟩ F' H' (some v :: o :: σ') (.st none R SR r :: .st (some v0) T ST t' :: List.replicate (N.length - 1) .un) := h'
    have ho : o = some v0 := by
      obtain ⟨fp, qq⟩ := h3.sl
      obtain ⟨v', e1, _, e2⟩ := qq.ok 1 _ rfl
      simp at e1
      rw [e1, e2.1]
    subst ho
    exact q F' H' v h3.head2
end
section
variable {X : Cx} {Ω : Type} {env : Env} {nm : Str} {pos np : Pos} {e : Expr} {xs : List Expr} {Pt A R T : Type} {SR : Stor R} {ST : Stor T} {e' : Pt → Env} {sl : A → Env} {k : Nat} {f : Addr} {fd : FuncData} {ps : List Str}
/-- f(..) -/
theorem lx_call {m : A → Option R} {fa : (A → Pt → Option Ω) → Option Ω} (Fn : FnOk X.prog X.w X.K X.mg X.base CX0 k f fd ps (spP X.K sl SR m)) (hr : Room k X.A) (hm : X.mg nm = some (.ref f)) (hk : PySem.W.keepIn X.K (.ref f) = true) (hb : Binds X.K fd ps []) (sh : ∀ a, ShE (sl a))
    (ha : LA X env (e :: xs) sl e' fa) (hg : Gl X nm := by rfl) (hdb : (nm == ("__debug__" : Str)) = false := by decide) (he : starEach (e :: xs) X.env = (false, eval e X.env) :: starEach xs X.env := by rfl) (hpl : (backTo pos (starEach xs X.env)).any (·.1) = false := by rfl) :
    LX X env (.Call (.Name nm np) (e :: xs) [] pos) SR e' (fun k => fa fun a p => (m a).bind fun r => k r p) :=
  fun C F H σs es σ k ω Q hK hl h hk' q => tE.of X (pe_call Fn hr hg hm hk hb .nil pass0 (paC X) hdb he hpl) (ha C F H σs es σ _ ω _ hK hl h hk' fun a p vs F' H' hk2 hlv h' => by
    obtain ⟨r, hm', hk2⟩ := bind_some hk2
    show spP X.K sl SR m (vs ++ []) H' Q _
    rw [List.append_nil, ← hK]
    exact ⟨H', F', a, r, hm', hlv, h'.enter hlv (sh a), fun F2 H2 v h2 => by
      obtain ⟨F3, h3⟩ := (h'.popN hlv).back h2
      exact q r p v F3 H2 hk2 h3⟩)
theorem lx_call0 {m : Unit → Option R} (Fn : FnOk X.prog X.w X.K X.mg X.base CX0 k f fd ps (spP X.K (fun _ : Unit => []) SR m)) (hr : Room k X.A) (hm : X.mg nm = some (.ref f)) (hk : PySem.W.keepIn X.K (.ref f) = true) (hb : Binds X.K fd ps [])
    (hg : Gl X nm := by rfl) (hdb : (nm == ("__debug__" : Str)) = false := by decide) :
    LX X env (.Call (.Name nm np) [] [] pos) SR (fun _ : Unit => env) (fun (k : R → Unit → Option Ω) => (m ()).bind fun r => k r ()) :=
  fun C F H σs es σ k ω Q hK hl h hk' q => tE.of X (pe_call0 Fn hr hg hm hk hb .nil pass0 hdb) (by
    obtain ⟨r, hm', hk2⟩ := bind_some hk'
    show spP X.K _ SR m [] H Q E0
    rw [← hK]
    refine ⟨H, F, (), r, hm', rfl, ER.enter (σa := []) (ea := []) h rfl .nil, fun F2 H2 v h2 => ?_⟩
    obtain ⟨F3, h3⟩ := h.back h2
    exact q r () v F3 H2 hk2 h3)
/-- into a def that changes the object of slot i -/
theorem ER.enterI {C : Ck} {F H : Hp} {σ : List (Option V)} {env : Env} {w : Option V} {t : T} {v0 : V} {i : Nat} {σa : List (Option V)} {ea : Env} (h : ER C F H (σa ++ σ) (ea ++ env)) (hl : σa.length = ea.length) (sh : ShE ea) (hi : env[i]? = some (.st w T ST t)) (hv : σ[i]? = some (some v0)) :
    ∃ B io, ER ⟨C.K, B, F, H, io⟩ F H (some v0 :: σa) (.st (some v0) T ST t :: ea) ∧ ∀ (R : Type) (SR : Stor R) (r : R) (t' : T) (F' H' : Hp) (v : V), ER ⟨C.K, B, F, H, io⟩ F' H' [some v, some v0] [.st none R SR r, .st (some v0) T ST t'] →
      ∃ F'', ER C F'' H' (some v :: σ) (.st none R SR r :: env.set i (.st w T ST t')) := by
  have h0 : ER C F H σ env := h.popN hl
  obtain ⟨fp, q⟩ := h0.sl
  have hil := lt_of_get hi
  obtain ⟨v', e1, rr, kk⟩ := q.ok i _ hi
  rw [hv] at e1
  simp at e1; subst e1
  have he := h.enter hl sh
  obtain ⟨fe, qe⟩ := he.sl
  refine ⟨fun a => if a ∈ fp i then none else H a, fp i, ⟨fun a o e => ?_, h0.sF, fun a m => .inl m, fun a m => m, by simp [hl], _, Fps.push (fp := fun _ => []) ⟨fun j s e => ?_, fun j hj a ha => (nomatch ha), fun j l _ _ a ha => (nomatch ha), fun j _ => List.nodup_nil⟩ (fq := fp i) ⟨v0, rfl, rr, rfl, fun a m => .inr m⟩ (fun a m => ⟨if_pos m, (q.own i hil a m).2⟩) (q.nd i hil) fun j _ a ha => (nomatch ha)⟩, ?_⟩
  · have e : (if a ∈ fp i then none else H a) = some o := e
    by_cases m : a ∈ fp i
    · rw [if_pos m] at e; cases e
    · rw [if_neg m] at e; exact e
  · obtain ⟨τ, S, x, rfl, cp⟩ := sh.slot j s e
    obtain ⟨v, e1, r, _⟩ := qe.ok j _ e
    have z := cp.nil r
    rw [z] at r
    exact ⟨v, e1, r, fun _ m => nomatch m⟩
  · intro R SR r t' F' H' v hc
    have bk : ∀ a, H a ≠ none → a ∉ fp i → H' a = H a := fun a m n => by
      cases e : H a with
      | none => exact absurd e m
      | some o => exact hc.sB a o (by show (if a ∈ fp i then none else H a) = _; rw [if_neg n]; exact e)
    have fn : ∀ a, F a ≠ none → a ∉ fp i := fun a m z => m (q.own i hil a z).2.1
    have bn : ∀ a, C.B a ≠ none → a ∉ fp i := fun a m z => m (q.own i hil a z).1
    have sFH : Same F H' := fun a o e => by
      have m : F a ≠ none := by rw [e]; exact fun z => by cases z
      rw [bk a (same_some h0.sF m) (fn a m)]; exact h0.sF a o e
    have up' : ∀ a, H a ≠ none → H' a ≠ none := fun a m => hc.up a m
    obtain ⟨fc, qc⟩ := hc.sl
    obtain ⟨v1, ev1, r1, n1⟩ := qc.ok 0 _ rfl
    obtain ⟨v2, ev2, r2, n2⟩ := qc.ok 1 _ rfl
    simp at ev1 ev2; subst ev1; subst ev2
    have l0 : 0 < ([.st none R SR r, .st (some v0) T ST t'] : Env).length := by simp
    have l1 : 1 < ([.st none R SR r, .st (some v0) T ST t'] : Env).length := by simp
    have i1 : ∀ a ∈ fc 1, H a = none ∨ a ∈ fp i := n2.2
    have sep01 : ∀ a ∈ fc 0, a ∉ fc 1 := fun a m z => by have := qc.sep 0 1 l0 l1 a m z; omega
    have fnn : ∀ a, (H a = none ∨ a ∈ fp i) → F a = none := fun a m => by
      rcases m with m | m
      · exact h0.fnone m
      · exact (q.own i hil a m).2.1
    have bnn : ∀ a, (H a = none ∨ a ∈ fp i) → C.B a = none := fun a m => by
      rcases m with m | m
      · exact h0.bnone m
      · exact (q.own i hil a m).1
    have jH : ∀ j, j < env.length → j ≠ i → ∀ a ∈ fp j, ¬ (H a = none ∨ a ∈ fp i) := fun j hj ne a ha z => by
      rcases z with z | z
      · exact (q.own j hj a ha).2.2 z
      · exact ne (q.sep j i hj hil a ha z)
    refine ⟨hun F F', fun a o e => ?_, hun_same sFH hc.sF, fun a m => ?_, fun a m => up' a (h0.up a m), by simp [h0.len], _, Fps.push (fp := fun j => if j = i then fc 1 else fp j) ⟨fun j s ej => ?_, fun j hj a ha => ?_, fun j l hj hl a ha hb => ?_, fun j hj => ?_⟩ (fq := fc 0) ⟨v, rfl, SR.monoF (same_hunR sFH hc.sF) r1, fun a m => h0.hnone (n1 a m)⟩ (fun a m => ?_) (qc.nd 0 l0) fun j hj a ha m => ?_⟩
    · have m : C.B a ≠ none := by rw [e]; exact fun z => by cases z
      rw [bk a (same_some h0.sB m) (bn a m)]; exact h0.sB a o e
    · rcases hun_some m with z | z
      · exact h0.gr a z
      · rcases hc.gr a z with y | y
        · exact h0.gr a y
        · exact .inr (h0.hnone y)
    · by_cases z : j = i
      · subst z
        rw [List.getElem?_set_self hil] at ej
        cases ej
        simp only [if_pos]
        refine ⟨v0, by rw [hv]; rfl, ST.monoF (same_hunR sFH hc.sF) r2, ?_⟩
        cases w with
        | none =>
          intro a ha
          rcases i1 a ha with m | m
          · exact h0.hnone m
          · exact kk a m
        | some w0 =>
          refine ⟨kk.1, fun a ha => ?_⟩
          rcases i1 a ha with m | m
          · exact .inl (h0.hnone m)
          · exact kk.2 a m
      · rw [List.getElem?_set_ne (fun y => z y.symm)] at ej
        have hj := lt_of_get ej
        simp only [if_neg z]
        exact (q.ok j s ej).go same_hunL (fun a m => bk a (same_some h0.sB m) (bn a m)) fun a ha => bk a (q.own j hj a ha).2.2 fun y => jH j hj z a ha (.inr y)
    · have hj' : j < env.length := by simpa using hj
      by_cases z : j = i
      · simp only [if_pos z] at ha
        exact ⟨bnn a (i1 a ha), hun_none (fnn a (i1 a ha)) (qc.own 1 l1 a ha).2.1, (qc.own 1 l1 a ha).2.2⟩
      · simp only [if_neg z] at ha
        obtain ⟨b, f, c⟩ := q.own j hj' a ha
        refine ⟨b, hun_none f ?_, up' a c⟩
        cases e : F' a with
        | none => rfl
        | some o =>
          rcases hc.gr a (by rw [e]; exact fun z => by cases z) with y | y
          · exact absurd f y
          · exact absurd y c
    · have hj' : j < env.length := by simpa using hj
      have hl' : l < env.length := by simpa using hl
      by_cases zj : j = i
      · by_cases zl : l = i
        · rw [zj, zl]
        · simp only [if_pos zj] at ha
          simp only [if_neg zl] at hb
          exact absurd (i1 a ha) (jH l hl' zl a hb)
      · simp only [if_neg zj] at ha
        by_cases zl : l = i
        · simp only [if_pos zl] at hb
          exact absurd (i1 a hb) (jH j hj' zj a ha)
        · simp only [if_neg zl] at hb
          exact q.sep j l hj' hl' a ha hb
    · have hj' : j < env.length := by simpa using hj
      by_cases z : j = i
      · simp only [if_pos z]; exact qc.nd 1 l1
      · simp only [if_neg z]; exact q.nd j hj'
    · have := n1 a m
      exact ⟨h0.bnone this, hun_none (h0.fnone this) (qc.own 0 l0 a m).2.1, (qc.own 0 l0 a m).2.2⟩
    · have hj' : j < env.length := by simpa using hj
      by_cases z : j = i
      · simp only [if_pos z] at ha
        exact sep01 a m ha
      · simp only [if_neg z] at ha
        exact (q.own j hj' a ha).2.2 (n1 a m)
/-- f(x, ..), f changes x's object -/
theorem lx_callI {w : Option V} {t0 : T} {t : Pt → T} {m : T → A → Option (R × T)} {fa : (A → Pt → Option Ω) → Option Ω} {vn : Str} {vp : Pos} (i : Nat) (Fn : FnOk X.prog X.w X.K X.mg X.base CX0 k f fd ps (spI X.K ST sl SR m)) (hr : Room k X.A) (hm : X.mg nm = some (.ref f)) (hk : PySem.W.keepIn X.K (.ref f) = true) (hb : Binds X.K fd ps []) (sh : ∀ a, ShE (sl a))
    (h0 : env[i]? = some (.st w T ST t0)) (ha : LA X env xs sl e' fa) (h1 : ∀ p, (e' p)[i]? = some (.st w T ST (t p))) (hN : X.N[i]? = some vn := by rfl) (hv : Vis X.env.scope vn := by first | exact Or.inl rfl | exact Or.inr (Or.inl rfl) | exact Or.inr (Or.inr rfl)) (hd : (vn == ("__debug__" : Str)) = false := by decide) (hcd : (vn == ("__classdict__" : Str)) = false := by decide)
    (hg : Gl X nm := by rfl) (hdb : (nm == ("__debug__" : Str)) = false := by decide) (he : starEach (Expr.Name vn vp :: xs) X.env = (false, eval (Expr.Name vn vp) X.env) :: starEach xs X.env := by rfl) (hpl : (backTo pos (starEach xs X.env)).any (·.1) = false := by rfl) :
    LX X env (.Call (.Name nm np) (.Name vn vp :: xs) [] pos) SR (fun p : Pt × T => (e' p.1).set i (.st w T ST p.2)) (fun k => fa fun a p => (m (t p) a).bind fun r => k r.1 (p, r.2)) :=
  fun C F H σs es σ k ω Q hK hl h hk' q => tE.of X (pe_call Fn hr hg hm hk hb .nil pass0 (paC X) hdb he hpl) (la_lend i h0 hN hv ha hd hcd he C F H σs es σ _ ω _ hK hl h hk' fun a p v0 vs F' H' hk2 hv0 hlv h' => by
    obtain ⟨⟨r, t'⟩, hm', hk2⟩ := bind_some hk2
    show spI X.K ST sl SR m (v0 :: vs ++ []) H' Q _
    rw [List.append_nil, ← hK]
    have h2 : ER C F' H' (vs.map some ++ (σs ++ σ)) (sl a ++ (es ++ e' p)) := h'
    obtain ⟨B, io, g1, g2⟩ := h2.enterI (i := es.length + i) (v0 := v0) hlv (sh a) (by rw [at_app _ rfl]; exact h1 p) (by rw [at_app _ hl]; exact hv0)
    refine ⟨B, F', io, t p, a, r, t', v0, vs, rfl, hm', hlv, g1, fun F2 H2 v h3 => ?_⟩
    obtain ⟨F3, h4⟩ := g2 R SR r t' F2 H2 v h3
    rw [List.set_append_right _ _ (Nat.le_add_right _ _), Nat.add_sub_cancel_left] at h4
    exact q r (p, t') v F3 H2 hk2 h4)
end
end Z

set_option Elab.async false
set_option linter.all false
set_option maxRecDepth 100000
namespace Z
open PySem PySem.Spec PyProof.Rows L2

/-! ### comprehensions -/
def compO {α β S Ω : Type} : List α → S → (α → S → (Option β → S → Option Ω) → Option Ω) → List β → (List β → S → Option Ω) → Option Ω
  | [], s, _, acc, k => k acc s
  | x :: xs, s, b, acc, k => b x s fun o s' => match o with
    | some y => ck (decide (acc.length < SZ)) (compO xs s' b (acc ++ [y]) k)
    | none => compO xs s' b acc k
section
variable {C : Ck} {F F' H H' : Hp} {σ σ' σs : List (Option V)} {env es : Env}
theorem ER.like (h : ER C F H (σs ++ σ) (es ++ env)) (hl : σs.length = es.length) (hl2 : σ'.length = σ.length) (he : ∀ (j : Nat) (s : Slot), env[j]? = some s → s = Slot.un ∨ σ'[j]? = σ[j]?) : ER C F H (σs ++ σ') (es ++ env) := by
  have hls := h.lenF hl
  refine h.perm (by simp [hl, hl2, hls]) id fun j s' e => ?_
  by_cases z : j < es.length
  · exact .inr ⟨e, by rw [id, List.getElem?_append_left (by omega), List.getElem?_append_left (by omega)], fun l _ _ _ y => y⟩
  · obtain ⟨m, rfl⟩ : ∃ m, j = es.length + m := ⟨j - es.length, by omega⟩
    have e' := e
    rw [at_app _ rfl] at e'
    rcases he m s' e' with y | y
    · exact .inl y
    · exact .inr ⟨e, by rw [id, at_app _ hl, at_app _ hl, y], fun l _ _ _ y => y⟩
end
section
variable (X : Cx) {Ω : Type}
def tTl (ifs : List Expr) : TT := fun σ H Q => ∀ pins s, Inv X pins σ H s → wpAny (model X.prog X.w) X.A (forIn ifs true fun c r => if r = true then do let ok ← isTrue c X.env (eval c X.env); pure (ForInStep.yield ok) else pure (ForInStep.yield r)) (TP X pins σ Q) X.xe s
theorem ptsC {ifs : List Expr} : PTs X ifs (tTl X ifs) := ⟨fun pins s σ H Q I h => h pins s I⟩
theorem tTl.of {ifs : List Expr} {t : TT} {σ : L2.St} {H : Hp} {Q : Bool → Hp → Prop} (h : PTs X ifs t) (q : t σ H Q) : tTl X ifs σ H Q := fun pins s I => h.run pins s σ H Q I q
/-- the tests of a comprehension -/
def LTl (env : Env) (ifs : List Expr) {P : Type} (env' : P → Env) (f : (Bool → P → Option Ω) → Option Ω) : Prop :=
  ∀ (C : Ck) (F H : Hp) (σs : List (Option V)) (es : Env) (σ : List (Option V)) (k : Bool → P → Option Ω) (ω : Ω) (Q : Bool → Hp → Prop), C.K = X.K → σs.length = es.length → ER C F H (σs ++ σ) (es ++ env) → f k = some ω →
    (∀ a p F' H', k a p = some ω → ER C F' H' (σs ++ σ) (es ++ env' p) → Q a H') → tTl X ifs σ H Q
end
/-- the contexts of a block's turns -/
structure Blk (X : Cx) (scope : Scope) (Y : Cx) : Prop where
  is : ∃ (s : Shared) (H : Hp) (C : Addr) (cl : List (Str × Addr)) (fp : List Addr), Y = X.blk s H scope (compEnvC scope cl C X.env) fp
section
variable {X : Cx} {Ω : Type} {env : Env} {nm : Str} {pos spos np : Pos} {a b c e elt tg iter : Expr} {ifs : List Expr} {P P1 P2 T : Type} {τ τ1 τ2 α β : Type} {S : Stor τ} {Sa : Stor α} {Sb : Stor β} {E : Enc τ} {e' : P → Env} {scope : Scope} {own : List (Str × Nat)} {ix : List Nat}
theorem ltl_nil : LTl X env [] (fun _ : Unit => env) (fun (k : Bool → Unit → Option Ω) => k true ()) :=
  fun C F H σs es σ k ω Q hK hl hr hk q => tTl.of X pts_nil (q true () F H hk hr)
theorem ltl_one {f : (Bool → P → Option Ω) → Option Ω} (h : LT X env c e' f) : LTl X env [c] e' f :=
  fun C F H σs es σ k ω Q hK hl hr hk q => tTl.of X (pts_one (ptC X)) (h C F H σs es σ k ω Q hK hl hr hk q)
theorem lc_run {envT : T → Env} {envX : T → α → Env} {eT : T → α → P1 → Env} {eE : T → α → P1 → P2 → Env} {f : (List α → P → Option Ω) → Option Ω} {ft : T → α → (Bool → P1 → Option Ω) → Option Ω} {fe : T → α → P1 → (β → P2 → Option Ω) → Option Ω}
    (hi : LI X env tg iter Sa e' f) (s0 : P → T) (h0 : ∀ p, Sub (e' p) (envT (s0 p))) (hu : ∀ (t : T) (i : Nat) (s : Slot), i ∈ own.map (·.2) → (envT t)[i]? = some s → s = Slot.un)
    (hg : ∀ Y, Blk X scope Y → ∀ t, LG Y (own.map (·.2)) (envT t) tg Sa (envX t)) (ht : ∀ Y, Blk X scope Y → ∀ t x, LTl Y (envX t x) ifs (eT t x) (ft t x)) (he : ∀ Y, Blk X scope Y → ∀ t x p, LX Y (eT t x p) elt Sb (eE t x p) (fe t x p))
    (tn : T → α → P1 → P2 → T) (hn : ∀ t x p q, Sub (eE t x p q) (envT (tn t x p q))) (tf : T → α → P1 → T) (hf : ∀ t x p, Sub (eT t x p) (envT (tf t x p)))
    {C : Ck} {F H : Hp} {σs : List (Option V)} {es : Env} {σ : List (Option V)} {k : List β → T → Option Ω} {ω : Ω} {Q : VK} (hK : C.K = X.K) (hl : σs.length = es.length) (h : ER C F H (σs ++ σ) (es ++ env))
    (hk : (f fun xs p => compO xs (s0 p) (fun x t kc => ft t x fun b p1 => if b = true then fe t x p1 fun y p2 => kc (some y) (tn t x p1 p2) else kc none (tf t x p1)) [] k) = some ω)
    (q : ∀ ys t v F' H', k ys t = some ω → ER C F' H' (some v :: (σs ++ σ)) (.st none (List β) (ls Sb) ys :: (es ++ envT t)) → Q v H') :
    tLc (tI X tg iter) (fun v σ H Q => ∀ Y, Blk X scope Y → tG Y tg v σ H Q) (fun σ H Q => ∀ Y, Blk X scope Y → tTl Y ifs σ H Q) (fun σ H Q => ∀ Y, Blk X scope Y → tE Y elt σ H Q) (own.map (·.2)) σ H Q := by
  refine hi C F H σs es σ _ ω _ hK hl h hk fun xs p Jt F' H' σx ex hk' h' hy => ?_
  intro D nD
  have like : ∀ {F2 H2 σp ep t}, σp.length = ep.length → ER C F2 H2 (σp ++ (σx ++ (σs ++ σ))) (ep ++ (ex ++ (es ++ envT t))) → ER C F2 H2 (σp ++ (σx ++ (σs ++ wipe σ (own.map (·.2))))) (ep ++ (ex ++ (es ++ envT t))) := fun {F2 H2 σp ep t} hlp h2 => by
    have h3 : ER C F2 H2 ((σp ++ σx ++ σs) ++ σ) ((ep ++ ex ++ es) ++ envT t) := by simpa [List.append_assoc] using h2
    have := h3.like (σ' := wipe σ (own.map (·.2))) (by simp [hlp, hl, hy.len]) (wipe_length _ _) fun j s e => by
      by_cases m : j ∈ own.map (·.2)
      · exact .inl (hu t j s m e)
      · refine .inr ?_
        rw [wipe_get, if_neg m]
    simpa [List.append_assoc] using this
  have unlike : ∀ {F2 H2 σp ep t σ4}, σp.length = ep.length → σ4.length = σ.length → wipe σ4 (own.map (·.2)) = wipe σ (own.map (·.2)) → ER C F2 H2 (σp ++ (σx ++ (σs ++ σ4))) (ep ++ (ex ++ (es ++ envT t))) → ER C F2 H2 (σp ++ (σx ++ (σs ++ σ))) (ep ++ (ex ++ (es ++ envT t))) := fun {F2 H2 σp ep t σ4} hlp hl4 hw h2 => by
    have h3 : ER C F2 H2 ((σp ++ σx ++ σs) ++ σ4) ((ep ++ ex ++ es) ++ envT t) := by simpa [List.append_assoc] using h2
    have := h3.like (σ' := σ) (by simp [hlp, hl, hy.len]) hl4.symm fun j s e => by
      by_cases m : j ∈ own.map (·.2)
      · exact .inl (hu t j s m e)
      · refine .inr ?_
        have := congrArg (fun l => l[j]?) hw
        simp only [wipe_get, if_neg m] at this
        exact this.symm
    simpa [List.append_assoc] using this
  have hnew : ER C F' (upd H' D (.lst [])) (some (.ref D) :: (σx ++ (σs ++ σ))) (.st none (List β) (ls Sb) [] :: (ex ++ (es ++ e' p))) := h'.newOw nD ⟨D, [], [], rfl, upd_same, .nil, rfl⟩
  refine ⟨fun i m H2 => m = xs.length - i ∧ i ≤ xs.length ∧ ∃ acc t F2, ER C F2 H2 (some (.ref D) :: (σx ++ (σs ++ σ))) (.st none (List β) (ls Sb) acc :: (ex ++ (es ++ envT t))) ∧
    compO (xs.drop i) t (fun x t kc => ft t x fun b p1 => if b = true then fe t x p1 fun y p2 => kc (some y) (tn t x p1 p2) else kc none (tf t x p1)) acc k = some ω,
    ⟨xs.length, by simp, Nat.zero_le _, [], s0 p, F', ER.sub hnew (.keep (((h0 p).pre es).pre ex)), by simpa using hk'⟩, ?_⟩
  rintro i m H2 ⟨rfl, hi', acc, t, F2, h2, hk2⟩
  obtain ⟨y1, y2⟩ := hy.go i F2 H2 [some (.ref D)] (σs ++ σ) [.st none (List β) (ls Sb) acc] (es ++ envT t) rfl h2
  by_cases hlt : i < xs.length
  · have ex1 : xs[i]? = some xs[i] := List.getElem?_eq_getElem hlt
    obtain ⟨g1, g2⟩ := y1 _ ex1
    have ed : xs.drop i = xs[i] :: xs.drop (i + 1) := List.drop_eq_getElem_cons hlt
    rw [ed] at hk2
    refine .inr ⟨g1, fun H3 => ∃ acc t F3, ER C F3 H3 (some (.ref D) :: (σx ++ (σs ++ σ))) (.st none (List β) (ls Sb) acc :: (ex ++ (es ++ envT t))) ∧
      compO (xs.drop (i + 1)) t (fun x t kc => ft t x fun b p1 => if b = true then fe t x p1 fun y p2 => kc (some y) (tn t x p1 p2) else kc none (tf t x p1)) acc k = some ω,
      fun H3 ⟨acc3, t3, F3, h3, hk3⟩ => ⟨xs.length - (i + 1), by omega, rfl, hlt, acc3, t3, F3, h3, hk3⟩, fun v H3 hv Y bY => ?_⟩
    have YK : C.K = Y.K := by obtain ⟨_, _, _, _, _, rfl⟩ := bY.is; exact hK
    obtain ⟨F3, h3⟩ := g2 v H3 hv
    have h3' := like (σp := [some v, some (.ref D)]) (ep := [.st none α Sa xs[i], .st none (List β) (ls Sb) acc]) rfl h3
    have lenp : ((some (.ref D) : Option V) :: (σx ++ σs)).length = ((.st none (List β) (ls Sb) acc : Slot) :: (ex ++ es)).length := by simp [hl, hy.len]
    refine hg Y bY t C F3 H3 (some (.ref D) :: (σx ++ σs)) (.st none (List β) (ls Sb) acc :: (ex ++ es)) (wipe σ (own.map (·.2))) v xs[i] _ YK lenp (by simpa [List.append_assoc] using h3') fun σ4 e4 h4 => ?_
    have hw : wipe σ4 (own.map (·.2)) = wipe (wipe σ (own.map (·.2))) (own.map (·.2)) := e4.wipe
    have hww : wipe (wipe σ (own.map (·.2))) (own.map (·.2)) = wipe σ (own.map (·.2)) := by
      apply List.ext_getElem?
      intro j
      rw [wipe_get, wipe_length, wipe_get]
      by_cases m : j ∈ own.map (·.2)
      · rw [if_pos m, if_pos m]
      · rw [if_neg m, if_neg m]
    have hl4 : σ4.length = σ.length := by rw [e4.1, wipe_length]
    refine ⟨hw.trans hww, fun Y bY => ?_⟩
    have YK : C.K = Y.K := by obtain ⟨_, _, _, _, _, rfl⟩ := bY.is; exact hK
    refine ht Y bY t xs[i] C F3 H3 (some (.ref D) :: (σx ++ σs)) (.st none (List β) (ls Sb) acc :: (ex ++ es)) σ4 _ ω _ YK lenp h4 hk2 fun bb p1 F5 H5 hk5 h5 => ?_
    cases bb with
    | false =>
      rw [if_neg Bool.false_ne_true] at hk5 ⊢
      refine ⟨acc, tf t xs[i] p1, F5, ?_, hk5⟩
      have h6 := ER.subF (σs := some (.ref D) :: (σx ++ σs)) h5 (hf t xs[i] p1)
      exact unlike (σp := [some (.ref D)]) (ep := [.st none (List β) (ls Sb) acc]) rfl hl4 (hw.trans hww) (by simpa [List.append_assoc] using h6)
    | true =>
      rw [if_pos rfl] at hk5 ⊢
      intro Y bY
      have YK : C.K = Y.K := by obtain ⟨_, _, _, _, _, rfl⟩ := bY.is; exact hK
      refine he Y bY t xs[i] p1 C F5 H5 (some (.ref D) :: (σx ++ σs)) (.st none (List β) (ls Sb) acc :: (ex ++ es)) σ4 _ ω _ YK lenp h5 hk5 fun y p2 u F6 H6 hk6 h6 => ?_
      have h7 : ER C F6 H6 (some u :: some (.ref D) :: (σx ++ (σs ++ σ4))) (.st none β Sb y :: .st none (List β) (ls Sb) acc :: (ex ++ (es ++ eE t xs[i] p1 p2))) := by simpa [List.append_assoc] using h6
      obtain ⟨hc, hk6⟩ := ck_some hk6
      obtain ⟨v', fp', v0, fq, e2, e3, r1, r2, nd, ow, fin⟩ := h7.absorb (i := 0) (w := none) (τ := List β) (S := ls Sb) (x := acc) rfl
      simp at e2 e3; subst e2; subst e3
      obtain ⟨q1, vs, fps, e4', hq, ra, rfl⟩ := r1
      cases e4'
      have hlen := ra.length
      have hc' := of_decide_eq_true hc
      refine ⟨vs, hq, by rw [SZ_eq]; omega, acc ++ [y], tn t xs[i] p1 p2, F6, ?_, hk6⟩
      have nm : D ∉ fps ++ fq := by
        have : (D :: (fps ++ fq)).Nodup := by simpa using nd
        exact (List.nodup_cons.mp this).1
      have fin' := fin (List β) (ls Sb) (acc ++ [y]) (upd H6 D (.lst (vs ++ [u]))) (D :: (fps ++ fq)) (fun a na _ => upd_ne fun z => na (by rw [z]; simp)) (fun a m => by
        by_cases z : a = D
        · subst z; rw [upd_same]; exact fun z => by cases z
        · rw [upd_ne z]; exact m) ⟨D, vs ++ [u], fps ++ fq, rfl, upd_same, RelAll.imp (fun fr' v' x' s q => Sb.frame (fun a m => upd_ne fun z => nm (z ▸ s a m)) q) (ra.app r2), rfl⟩ (by simpa using nd) (fun a m => by
        refine ⟨?_, .inl (by simpa using m)⟩
        by_cases z : a = D
        · subst z; rw [upd_same]; exact fun z => by cases z
        · rw [upd_ne z]; exact (ow a (by simpa using m)).2.2)
      have h8 : ER C F6 (upd H6 D (.lst (vs ++ [u]))) ((some (.ref D) :: (σx ++ σs)) ++ σ4) ((.st none (List β) (ls Sb) (acc ++ [y]) :: (ex ++ es)) ++ eE t xs[i] p1 p2) := by simpa [List.append_assoc] using fin'
      have h9 := h8.subF (hn t xs[i] p1 p2)
      exact unlike (σp := [some (.ref D)]) (ep := [.st none (List β) (ls Sb) (acc ++ [y])]) rfl hl4 (hw.trans hww) (by simpa [List.append_assoc] using h9)
  · have e : i = xs.length := by omega
    subst e
    refine .inl ⟨y2 (by simp), q acc t (.ref D) F2 H2 (by simpa [compO] using hk2) ?_⟩
    have h3 : ER C F2 H2 (σx ++ some (.ref D) :: (σs ++ σ)) (ex ++ .st none (List β) (ls Sb) acc :: (es ++ envT t)) := ER.unrot h2 hy.len
    exact h3.popN hy.len
end
end Z

set_option Elab.async false
set_option linter.all false
set_option maxRecDepth 100000
namespace Z
open PySem PySem.Spec PyProof.Rows L2

section
variable {X : Cx} {Ω : Type} {env : Env} {nm : Str} {pos spos np : Pos} {a b c e elt tg iter : Expr} {ifs : List Expr} {P P1 P2 T : Type} {τ τ1 τ2 α β : Type} {S : Stor τ} {Sa : Stor α} {Sb : Stor β} {E : Enc τ} {e' : P → Env} {scope : Scope} {own : List (Str × Nat)} {ix : List Nat}
/-- [elt for tg in iter if ..] -/
theorem lx_lc {envT : T → Env} {envX : T → α → Env} {eT : T → α → P1 → Env} {eE : T → α → P1 → P2 → Env} {f : (List α → P → Option Ω) → Option Ω} {ft : T → α → (Bool → P1 → Option Ω) → Option Ω} {fe : T → α → P1 → (β → P2 → Option Ω) → Option Ω}
    (hc : X.calm = true) (hN : X.N.Nodup) (ok : BlkOk X.N X.env.scope scope own)
    (hi : LI X env tg iter Sa e' f) (s0 : P → T) (h0 : ∀ p, Sub (e' p) (envT (s0 p))) (hu : ∀ (t : T) (i : Nat) (s : Slot), i ∈ own.map (·.2) → (envT t)[i]? = some s → s = Slot.un)
    (hg : ∀ (s : Shared) (H : Hp) (C : Addr) (cl : List (Str × Addr)) (fp : List Addr) t, LG (X.blk s H scope (compEnvC scope cl C X.env) fp) (own.map (·.2)) (envT t) tg Sa (envX t)) (ht : ∀ (s : Shared) (H : Hp) (C : Addr) (cl : List (Str × Addr)) (fp : List Addr) t x, LTl (X.blk s H scope (compEnvC scope cl C X.env) fp) (envX t x) ifs (eT t x) (ft t x)) (he : ∀ (s : Shared) (H : Hp) (C : Addr) (cl : List (Str × Addr)) (fp : List Addr) t x p, LX (X.blk s H scope (compEnvC scope cl C X.env) fp) (eT t x p) elt Sb (eE t x p) (fe t x p))
    (tn : T → α → P1 → P2 → T) (hn : ∀ t x p q, Sub (eE t x p q) (envT (tn t x p q))) (tf : T → α → P1 → T) (hf : ∀ t x p, Sub (eT t x p) (envT (tf t x p)))
    (hs : ∀ x, foldedSetIterable iter X.env x = pure x := by intro _; rfl) :
    LX X env (.ListComp elt [⟨tg, iter, ifs, 0⟩] scope pos) (ls Sb) envT (fun k => f fun xs p => compO xs (s0 p) (fun x t kc => ft t x fun b p1 => if b = true then fe t x p1 fun y p2 => kc (some y) (tn t x p1 p2) else kc none (tf t x p1)) [] k) :=
  fun C F H σs es σ k ω Q hK hl h hk q => tE.of X (pe_lc hc hN (piC X) ok (fun s H C cl fp => ⟨fun pins s' σ H' v u Q I r h => h _ ⟨s, H, C, cl, fp, rfl⟩ pins s' u I r⟩) (fun s H C cl fp => ⟨fun pins s' σ H' Q I h => h _ ⟨s, H, C, cl, fp, rfl⟩ pins s' I⟩) (fun s H C cl fp => ⟨fun pins s' σ H' Q I h => h _ ⟨s, H, C, cl, fp, rfl⟩ pins s' I⟩) hs)
    (lc_run hi s0 h0 hu (fun Y bY => by obtain ⟨s, H, C, cl, fp, rfl⟩ := bY.is; exact hg s H C cl fp) (fun Y bY => by obtain ⟨s, H, C, cl, fp, rfl⟩ := bY.is; exact ht s H C cl fp) (fun Y bY => by obtain ⟨s, H, C, cl, fp, rfl⟩ := bY.is; exact he s H C cl fp) tn hn tf hf hK hl h hk q)
/-- y = [..], y a local of the def, on one line -/
theorem lb_setLc {R I J : Type} {SR : Stor R} {envR : I → Env} {kr : R → I → Option Ω} {bk ct : Lp Ω} {rest : List Stmt} {envJ : J → Env} {fr : List β → T → (J → Option Ω) → Option Ω} {py : Pos}
    {envT : T → Env} {envX : T → α → Env} {eT : T → α → P1 → Env} {eE : T → α → P1 → P2 → Env} {f : (List α → P → Option Ω) → Option Ω} {ft : T → α → (Bool → P1 → Option Ω) → Option Ω} {fe : T → α → P1 → (β → P2 → Option Ω) → Option Ω}
    (hc : X.calm = true) (hN : X.N.Nodup) (ok : BlkOk X.N X.env.scope scope own) (i : Nat)
    (hi : LI X env tg iter Sa e' f) (s0 : P → T) (h0 : ∀ p, Sub (e' p) (envT (s0 p))) (hu : ∀ (t : T) (i : Nat) (s : Slot), i ∈ own.map (·.2) → (envT t)[i]? = some s → s = Slot.un)
    (hg : ∀ (s : Shared) (H : Hp) (C : Addr) (cl : List (Str × Addr)) (fp : List Addr) t, LG (X.blk s H scope (compEnvC scope cl C X.env) fp) (own.map (·.2)) (envT t) tg Sa (envX t)) (ht : ∀ (s : Shared) (H : Hp) (C : Addr) (cl : List (Str × Addr)) (fp : List Addr) t x, LTl (X.blk s H scope (compEnvC scope cl C X.env) fp) (envX t x) ifs (eT t x) (ft t x)) (he : ∀ (s : Shared) (H : Hp) (C : Addr) (cl : List (Str × Addr)) (fp : List Addr) t x p, LX (X.blk s H scope (compEnvC scope cl C X.env) fp) (eT t x p) elt Sb (eE t x p) (fe t x p))
    (tn : T → α → P1 → P2 → T) (hn : ∀ t x p q, Sub (eE t x p q) (envT (tn t x p q))) (tf : T → α → P1 → T) (hf : ∀ t x p, Sub (eT t x p) (envT (tf t x p)))
    (hr : ∀ ys t, LB X SR envR kr bk ct ((envT t).set i (.st none (List β) (ls Sb) ys)) rest envJ (fr ys t)) (hsw : swapsWith (.ListComp elt [⟨tg, iter, ifs, 0⟩] scope pos) (some (.Name nm py)) spos.line X.env = pure true) (hlt : ∀ t, i < (envT t).length := by exact (fun _ => Nat.lt_of_sub_eq_succ rfl)) (hy : X.N[i]? = some nm := by rfl) (hyl : X.env.scope.names.lookup nm = some .local := by rfl)
    (hs : ∀ x, foldedSetIterable iter X.env x = pure x := by intro _; rfl) :
    LB X SR envR kr bk ct env (.Assign [.Name nm py] (.ListComp elt [⟨tg, iter, ifs, 0⟩] scope pos) spos :: rest) envJ
      (fun kn => f fun xs p => compO xs (s0 p) (fun x t kc => ft t x fun b p1 => if b = true then fe t x p1 fun y p2 => kc (some y) (tn t x p1 p2) else kc none (tf t x p1)) [] fun ys t => fr ys t kn) :=
  fun C F H σs es σ kn ω D hK hl h hk qn qb qc qr => tSs.of X (pss_cons (ps_setLc (g := fun v σ H Q => ∀ Y, Blk X scope Y → tG Y tg v σ H Q) (tt := fun σ H Q => ∀ Y, Blk X scope Y → tTl Y ifs σ H Q) (te := fun σ H Q => ∀ Y, Blk X scope Y → tE Y elt σ H Q) hc hN hy hyl hsw (piC X) ok (fun s H C cl fp => ⟨fun pins s' σ H' v u Q I r h => h _ ⟨s, H, C, cl, fp, rfl⟩ pins s' u I r⟩) (fun s H C cl fp => ⟨fun pins s' σ H' Q I h => h _ ⟨s, H, C, cl, fp, rfl⟩ pins s' I⟩) (fun s H C cl fp => ⟨fun pins s' σ H' Q I h => h _ ⟨s, H, C, cl, fp, rfl⟩ pins s' I⟩) hs) (pssC X))
    (lc_run hi s0 h0 hu (fun Y bY => by obtain ⟨s, H, C, cl, fp, rfl⟩ := bY.is; exact hg s H C cl fp) (fun Y bY => by obtain ⟨s, H, C, cl, fp, rfl⟩ := bY.is; exact ht s H C cl fp) (fun Y bY => by obtain ⟨s, H, C, cl, fp, rfl⟩ := bY.is; exact he s H C cl fp) tn hn tf hf hK hl h hk fun ys t v F' H' hk' h' => hr ys t C F' H' σs es (σ.set i (some v)) kn ω D hK hl (h'.asg hl (hlt t)) hk' qn qb qc qr)

/-! ### built-ins over one thing -/
/-- f(e): what comes back is told by data -/
theorem lx_b1 {G : Env → Prop} {id : String} {r : List V → Hp → VK → Prop} {E : Enc β} {g : τ → Option β} {f : (τ → P → Option Ω) → Option Ω} (hcall : CallR X (.builtin id) r) (hm : X.mg nm = none) (hv : bootBuiltins nm = some (.builtin id)) (ha : LO X G env a S e' f) (hG : ∀ p, G (e' p))
    (hr : ∀ K F H fp v x y (Q : VK), K = X.K → Same F H → g x = some y → S.rel K F H fp v x → (∀ u, Rep K F u (E.enc y) → Q u H) → r [v] H Q)
    (hg : Gl X nm := by rfl) (hn : nm ≠ "__name__" := by decide) (hdb : (nm == ("__debug__" : Str)) = false := by decide) (he : starEach (a :: []) X.env = (false, eval a X.env) :: starEach [] X.env := by rfl) (hpl : (backTo pos (starEach [] X.env)).any (·.1) = false := by rfl) :
    LX X env (.Call (.Name nm np) [a] [] pos) (it E) e' (fun k => f fun x p => (g x).bind fun y => k y p) :=
  fun C F H σs es σ k ω Q hK hl h hk q => tE.of X (pe_callB hcall hg hm hv (pa_cons (peC X) pa_nil he) hn hdb he hpl) (lo_run ha hG hK hl h hk fun x p v F' H' fp hk' h' rr => by
    obtain ⟨y, hy, hk'⟩ := bind_some hk'
    exact hr C.K F' H' fp v x y Q hK h'.sF hy rr fun u hu => q y p u F' H' hk' (h'.pushSh hu))
/-- .. that always comes back -/
theorem lx_b1t {G : Env → Prop} {id : String} {r : List V → Hp → VK → Prop} {E : Enc β} {g : τ → β} {f : (τ → P → Option Ω) → Option Ω} (hcall : CallR X (.builtin id) r) (hm : X.mg nm = none) (hv : bootBuiltins nm = some (.builtin id)) (ha : LO X G env a S e' f) (hG : ∀ p, G (e' p))
    (hr : ∀ K F H fp v x (Q : VK), K = X.K → Same F H → S.rel K F H fp v x → (∀ u, Rep K F u (E.enc (g x)) → Q u H) → r [v] H Q)
    (hg : Gl X nm := by rfl) (hn : nm ≠ "__name__" := by decide) (hdb : (nm == ("__debug__" : Str)) = false := by decide) (he : starEach (a :: []) X.env = (false, eval a X.env) :: starEach [] X.env := by rfl) (hpl : (backTo pos (starEach [] X.env)).any (·.1) = false := by rfl) :
    LX X env (.Call (.Name nm np) [a] [] pos) (it E) e' (fun k => f fun x p => k (g x) p) :=
  fun C F H σs es σ k ω Q hK hl h hk q => tE.of X (pe_callB hcall hg hm hv (pa_cons (peC X) pa_nil he) hn hdb he hpl) (lo_run ha hG hK hl h hk fun x p v F' H' fp hk' h' rr =>
    hr C.K F' H' fp v x Q hK h'.sF rr fun u hu => q (g x) p u F' H' hk' (h'.pushSh hu))
/-- .. of a type -/
theorem lx_y1t {G : Env → Prop} {Ty : String} {r : List V → Hp → VK → Prop} {E : Enc β} {g : τ → β} {f : (τ → P → Option Ω) → Option Ω} (hcall : CallR X (.type Ty) r) (hm : X.mg nm = none) (hv : bootBuiltins nm = some (.type Ty)) (ha : LO X G env a S e' f) (hG : ∀ p, G (e' p))
    (hr : ∀ K F H fp v x (Q : VK), K = X.K → Same F H → S.rel K F H fp v x → (∀ u, Rep K F u (E.enc (g x)) → Q u H) → r [v] H Q)
    (hg : Gl X nm := by rfl) (hn : nm ≠ "__name__" := by decide) (hdb : (nm == ("__debug__" : Str)) = false := by decide) (he : starEach (a :: []) X.env = (false, eval a X.env) :: starEach [] X.env := by rfl) (hpl : (backTo pos (starEach [] X.env)).any (·.1) = false := by rfl) :
    LX X env (.Call (.Name nm np) [a] [] pos) (it E) e' (fun k => f fun x p => k (g x) p) :=
  fun C F H σs es σ k ω Q hK hl h hk q => tE.of X (pe_callTy hcall hg hm hv (pa_cons (peC X) pa_nil he) hn hdb he hpl) (lo_run ha hG hK hl h hk fun x p v F' H' fp hk' h' rr =>
    hr C.K F' H' fp v x Q hK h'.sF rr fun u hu => q (g x) p u F' H' hk' (h'.pushSh hu))
/-- .. that makes a new list of shared things -/
theorem lx_b1n {G : Env → Prop} {id : String} {r : List V → Hp → VK → Prop} {E : Enc β} {g : τ → Option (List β)} {f : (τ → P → Option Ω) → Option Ω} (hcall : CallR X (.builtin id) r) (hm : X.mg nm = none) (hv : bootBuiltins nm = some (.builtin id)) (ha : LO X G env a S e' f) (hG : ∀ p, G (e' p))
    (hr : ∀ K F H fp v x y (Q : VK), K = X.K → Same F H → g x = some y → S.rel K F H fp v x → (∀ t vs, H t = none → RepAll K F vs (y.map E.enc) → Q (.ref t) (upd H t (.lst vs))) → r [v] H Q)
    (hg : Gl X nm := by rfl) (hn : nm ≠ "__name__" := by decide) (hdb : (nm == ("__debug__" : Str)) = false := by decide) (he : starEach (a :: []) X.env = (false, eval a X.env) :: starEach [] X.env := by rfl) (hpl : (backTo pos (starEach [] X.env)).any (·.1) = false := by rfl) :
    LX X env (.Call (.Name nm np) [a] [] pos) (ls (it E)) e' (fun k => f fun x p => (g x).bind fun y => k y p) :=
  fun C F H σs es σ k ω Q hK hl h hk q => tE.of X (pe_callB hcall hg hm hv (pa_cons (peC X) pa_nil he) hn hdb he hpl) (lo_run ha hG hK hl h hk fun x p v F' H' fp hk' h' rr => by
    obtain ⟨y, hy, hk'⟩ := bind_some hk'
    exact hr C.K F' H' fp v x y Q hK h'.sF hy rr fun t vs nt hu => q y p (.ref t) F' _ hk' (h'.newOw nt ⟨t, vs, [], rfl, upd_same, hu.zero, rfl⟩))
theorem lx_y1n {G : Env → Prop} {Ty : String} {r : List V → Hp → VK → Prop} {E : Enc β} {g : τ → List β} {f : (τ → P → Option Ω) → Option Ω} (hcall : CallR X (.type Ty) r) (hm : X.mg nm = none) (hv : bootBuiltins nm = some (.type Ty)) (ha : LO X G env a S e' f) (hG : ∀ p, G (e' p))
    (hr : ∀ K F H fp v x (Q : VK), K = X.K → Same F H → S.rel K F H fp v x → (∀ t vs, H t = none → RepAll K F vs ((g x).map E.enc) → Q (.ref t) (upd H t (.lst vs))) → r [v] H Q)
    (hg : Gl X nm := by rfl) (hn : nm ≠ "__name__" := by decide) (hdb : (nm == ("__debug__" : Str)) = false := by decide) (he : starEach (a :: []) X.env = (false, eval a X.env) :: starEach [] X.env := by rfl) (hpl : (backTo pos (starEach [] X.env)).any (·.1) = false := by rfl) :
    LX X env (.Call (.Name nm np) [a] [] pos) (ls (it E)) e' (fun k => f fun x p => k (g x) p) :=
  fun C F H σs es σ k ω Q hK hl h hk q => tE.of X (pe_callTy hcall hg hm hv (pa_cons (peC X) pa_nil he) hn hdb he hpl) (lo_run ha hG hK hl h hk fun x p v F' H' fp hk' h' rr =>
    hr C.K F' H' fp v x Q hK h'.sF rr fun t vs nt hu => q (g x) p (.ref t) F' _ hk' (h'.newOw nt ⟨t, vs, [], rfl, upd_same, hu.zero, rfl⟩))
/-- f(a, b) of two ints -/
theorem lx_b2I {id : String} {r : List V → Hp → VK → Prop} {g : Int → Int → Int} {e1 : P1 → Env} {e2 : P1 → P2 → Env} {fa : (Int → P1 → Option Ω) → Option Ω} {fb : P1 → (Int → P2 → Option Ω) → Option Ω} (hcall : CallR X (.builtin id) r) (hr : ∀ i j H (Q : VK), Q (.int (g i j)) H → r [.int i, .int j] H Q) (hm : X.mg nm = none) (hv : bootBuiltins nm = some (.builtin id))
    (ha : LX X env a (it eI) e1 fa) (hb : ∀ p1, LX X (e1 p1) b (it eI) (e2 p1) (fb p1)) (hg : Gl X nm := by rfl) (hn : nm ≠ "__name__" := by decide) (hdb : (nm == ("__debug__" : Str)) = false := by decide)
    (he : starEach [a, b] X.env = (false, eval a X.env) :: starEach [b] X.env := by rfl) (he2 : starEach [b] X.env = (false, eval b X.env) :: starEach [] X.env := by rfl) (hpl : (backTo pos (starEach [b] X.env)).any (·.1) = false := by rfl) :
    LX X env (.Call (.Name nm np) [a, b] [] pos) (it eI) (fun p : P1 × P2 => e2 p.1 p.2) (fun k => fa fun x p1 => fb p1 fun y p2 => k (g x y) (p1, p2)) :=
  fun C F H σs es σ k ω Q hK hl h hk q => tE.of X (pe_callB hcall hg hm hv (pa_cons (peC X) (pa_cons (peC X) pa_nil he2) he) hn hdb he hpl) (op2_run (lo_of ha) (fun p1 => lo_of (hb p1)) (fun _ _ => trivial) (fun _ _ => trivial) hK hl h hk
    fun x p1 y p2 v u F' H' fp fq hk' h' r1 r2 => by
      obtain ⟨_, r1⟩ := r1
      obtain ⟨_, r2⟩ := r2
      cases r1; cases r2
      exact hr x y H' Q (q _ (p1, p2) _ F' H' hk' (h'.pushSh (.int _))))
section
variable {G : Env → Prop} {fI : (Int → P → Option Ω) → Option Ω} {f : (τ → P → Option Ω) → Option Ω} {g : τ → List α} {Ea : Enc α}
theorem lx_abs (hm : X.mg "abs" = none) (ha : LX X env a (it eI) e' fI) (hg : Gl X "abs" := by rfl) (he : starEach (a :: []) X.env = (false, eval a X.env) :: starEach [] X.env := by rfl) (hpl : (backTo pos (starEach [] X.env)).any (·.1) = false := by rfl) :
    LX X env (.Call (.Name "abs" np) [a] [] pos) (it eI) e' (fun k => fI fun x p => k (if x < 0 then -x else x) p) :=
  lx_b1t (E := eI) (g := fun x : Int => if x < 0 then -x else x) call_abs hm boot_abs (lo_of ha) (fun _ => trivial) (fun K F H fp v x Q _ _ r q => by obtain ⟨_, r⟩ := r; cases r; exact ⟨x, rfl, q _ (.int _)⟩) hg (by decide) (by decide) he hpl
theorem lx_int1 (hm : X.mg "int" = none) (ha : LX X env a (it eI) e' fI) (hg : Gl X "int" := by rfl) (he : starEach (a :: []) X.env = (false, eval a X.env) :: starEach [] X.env := by rfl) (hpl : (backTo pos (starEach [] X.env)).any (·.1) = false := by rfl) :
    LX X env (.Call (.Name "int" np) [a] [] pos) (it eI) e' (fun k => fI fun x p => k x p) :=
  lx_y1t (E := eI) (g := fun x : Int => x) call_int1 hm PyProof.Rows.boot_int (lo_of ha) (fun _ => trivial) (fun K F H fp v x Q _ _ r q => by obtain ⟨_, r⟩ := r; cases r; exact .inl ⟨x, rfl, q _ (.int _)⟩) hg (by decide) (by decide) he hpl
theorem lx_intB {fB : (Bool → P → Option Ω) → Option Ω} (hm : X.mg "int" = none) (ha : LX X env a (it eB) e' fB) (hg : Gl X "int" := by rfl) (he : starEach (a :: []) X.env = (false, eval a X.env) :: starEach [] X.env := by rfl) (hpl : (backTo pos (starEach [] X.env)).any (·.1) = false := by rfl) :
    LX X env (.Call (.Name "int" np) [a] [] pos) (it eI) e' (fun k => fB fun x p => k (if x = true then 1 else 0) p) :=
  lx_y1t (E := eI) (g := fun x : Bool => if x = true then (1 : Int) else 0) call_int1 hm PyProof.Rows.boot_int (lo_of ha) (fun _ => trivial) (fun K F H fp v x Q _ _ r q => by obtain ⟨_, r⟩ := r; cases r; exact .inr ⟨x, rfl, q _ (.int _)⟩) hg (by decide) (by decide) he hpl
theorem lx_max2 {e1 : P1 → Env} {e2 : P1 → P2 → Env} {fa : (Int → P1 → Option Ω) → Option Ω} {fb : P1 → (Int → P2 → Option Ω) → Option Ω} (hc : X.calm = true) (hm : X.mg "max" = none) (ha : LX X env a (it eI) e1 fa) (hb : ∀ p1, LX X (e1 p1) b (it eI) (e2 p1) (fb p1)) (hg : Gl X "max" := by rfl)
    (he : starEach [a, b] X.env = (false, eval a X.env) :: starEach [b] X.env := by rfl) (he2 : starEach [b] X.env = (false, eval b X.env) :: starEach [] X.env := by rfl) (hpl : (backTo pos (starEach [b] X.env)).any (·.1) = false := by rfl) :
    LX X env (.Call (.Name "max" np) [a, b] [] pos) (it eI) (fun p : P1 × P2 => e2 p.1 p.2) (fun k => fa fun x p1 => fb p1 fun y p2 => k (max x y) (p1, p2)) :=
  lx_b2I (call_max2 hc) (fun i j H Q q => ⟨i, j, rfl, by rw [show (if j > i then j else i) = max i j by omega]; exact q⟩) hm boot_max ha hb hg (by decide) (by decide) he he2 hpl
theorem lx_min2 {e1 : P1 → Env} {e2 : P1 → P2 → Env} {fa : (Int → P1 → Option Ω) → Option Ω} {fb : P1 → (Int → P2 → Option Ω) → Option Ω} (hc : X.calm = true) (hm : X.mg "min" = none) (ha : LX X env a (it eI) e1 fa) (hb : ∀ p1, LX X (e1 p1) b (it eI) (e2 p1) (fb p1)) (hg : Gl X "min" := by rfl)
    (he : starEach [a, b] X.env = (false, eval a X.env) :: starEach [b] X.env := by rfl) (he2 : starEach [b] X.env = (false, eval b X.env) :: starEach [] X.env := by rfl) (hpl : (backTo pos (starEach [b] X.env)).any (·.1) = false := by rfl) :
    LX X env (.Call (.Name "min" np) [a, b] [] pos) (it eI) (fun p : P1 × P2 => e2 p.1 p.2) (fun k => fa fun x p1 => fb p1 fun y p2 => k (min x y) (p1, p2)) :=
  lx_b2I (call_min2 hc) (fun i j H Q q => ⟨i, j, rfl, by rw [show (if j < i then j else i) = min i j by omega]; exact q⟩) hm boot_min ha hb hg (by decide) (by decide) he he2 hpl
theorem lx_len (hv : LVw S (it Ea) g) (hm : X.mg "len" = none) (ha : LO X G env a S e' f) (hG : ∀ p, G (e' p)) (hg : Gl X "len" := by rfl) (he : starEach (a :: []) X.env = (false, eval a X.env) :: starEach [] X.env := by rfl) (hpl : (backTo pos (starEach [] X.env)).any (·.1) = false := by rfl) :
    LX X env (.Call (.Name "len" np) [a] [] pos) (it eI) e' (fun k => f fun x p => k ((g x).length : Int) p) :=
  lx_b1t (E := eI) (g := fun x : τ => ((g x).length : Int)) call_len_seq hm PySem.boot_len ha hG (fun K F H fp v x Q hK s r q => by
    obtain ⟨p, vs, fps, rfl, h1, h2⟩ := hv.view s r
    have := h2.length
    exact ⟨p, vs, rfl, .inl (by rw [← hK]; exact h1), by rw [this]; exact q _ (.int _)⟩) hg (by decide) (by decide) he hpl
theorem lx_lenO {Sx : Stor α} (hv : LVw S Sx g) (hm : X.mg "len" = none) (ha : LO X G env a S e' f) (hG : ∀ p, G (e' p)) (hg : Gl X "len" := by rfl) (he : starEach (a :: []) X.env = (false, eval a X.env) :: starEach [] X.env := by rfl) (hpl : (backTo pos (starEach [] X.env)).any (·.1) = false := by rfl) :
    LX X env (.Call (.Name "len" np) [a] [] pos) (it eI) e' (fun k => f fun x p => k ((g x).length : Int) p) :=
  lx_b1t (E := eI) (g := fun x : τ => ((g x).length : Int)) call_len_seq hm PySem.boot_len ha hG (fun K F H fp v x Q hK s r q => by
    obtain ⟨p, vs, fps, rfl, h1, h2⟩ := hv.view s r
    have := h2.length
    exact ⟨p, vs, rfl, .inl (by rw [← hK]; exact h1), by rw [this]; exact q _ (.int _)⟩) hg (by decide) (by decide) he hpl
theorem lx_lenV (hv : TVw S (it Ea) g) (hm : X.mg "len" = none) (ha : LO X G env a S e' f) (hG : ∀ p, G (e' p)) (hg : Gl X "len" := by rfl) (he : starEach (a :: []) X.env = (false, eval a X.env) :: starEach [] X.env := by rfl) (hpl : (backTo pos (starEach [] X.env)).any (·.1) = false := by rfl) :
    LX X env (.Call (.Name "len" np) [a] [] pos) (it eI) e' (fun k => f fun x p => k ((g x).length : Int) p) :=
  lx_b1t (E := eI) (g := fun x : τ => ((g x).length : Int)) call_len_seq hm PySem.boot_len ha hG (fun K F H fp v x Q hK s r q => by
    obtain ⟨p, vs, fps, rfl, h1, h2⟩ := hv.view s r
    have := h2.length
    exact ⟨p, vs, rfl, .inr (by rw [← hK]; exact h1), by rw [this]; exact q _ (.int _)⟩) hg (by decide) (by decide) he hpl
theorem RepAll.ints {K : Fg} {F : Hp} : ∀ {vs : List V} {ns : List Int}, RepAll K F vs (ns.map eI.enc) → vs = ns.map V.int
  | [], [], _ => rfl
  | [], _ :: _, h => by cases h
  | _ :: _, [], h => by cases h
  | v :: vs, n :: ns, h => by
    cases h with
    | cons h1 h2 =>
      have h1' : Rep K F v (.int n) := h1
      cases h1'
      rw [RepAll.ints h2]; rfl
theorem RepAll.ofInts {K : Fg} {F : Hp} : ∀ (ns : List Int), RepAll K F (ns.map V.int) (ns.map eI.enc)
  | [] => .nil
  | n :: ns => .cons (.int n) (RepAll.ofInts ns)
theorem lx_sum {g : τ → List Int} (hc : X.calm = true) (hv : LVw S (it eI) g) (hm : X.mg "sum" = none) (ha : LO X G env a S e' f) (hG : ∀ p, G (e' p)) (hg : Gl X "sum" := by rfl) (he : starEach (a :: []) X.env = (false, eval a X.env) :: starEach [] X.env := by rfl) (hpl : (backTo pos (starEach [] X.env)).any (·.1) = false := by rfl) :
    LX X env (.Call (.Name "sum" np) [a] [] pos) (it eI) e' (fun k => f fun x p => k (g x).sum p) :=
  lx_b1t (E := eI) (g := fun x : τ => (g x).sum) (cr_sum hc) hm boot_sum ha hG (fun K F H fp v x Q hK s r q => by
    obtain ⟨p, vs, fps, rfl, h1, h2⟩ := hv.view s r
    have := h2.zero.2.ints
    subst this
    exact ⟨p, g x, rfl, by rw [← hK]; exact h1, q _ (.int _)⟩) hg (by decide) (by decide) he hpl
/-- the least, the greatest of a list of ints -/
def minI : List Int → Option Int
  | [] => none
  | x :: xs => some (xs.foldl min x)
def maxI : List Int → Option Int
  | [] => none
  | x :: xs => some (xs.foldl max x)
theorem foldl_min_le : ∀ (xs : List Int) (x : Int), xs.foldl min x ≤ x ∧ ∀ y ∈ xs, xs.foldl min x ≤ y
  | [], x => ⟨Int.le_refl x, fun _ m => nomatch m⟩
  | z :: xs, x => by
    obtain ⟨h1, h2⟩ := foldl_min_le xs (min x z)
    rw [List.foldl_cons]
    refine ⟨by omega, fun y m => ?_⟩
    rcases List.mem_cons.mp m with rfl | m
    · omega
    · exact h2 y m
theorem foldl_min_mem : ∀ (xs : List Int) (x : Int), xs.foldl min x = x ∨ xs.foldl min x ∈ xs
  | [], x => .inl rfl
  | z :: xs, x => by
    rw [List.foldl_cons]
    rcases foldl_min_mem xs (min x z) with h | h
    · by_cases c : x ≤ z
      · left; rw [h]; omega
      · right; rw [h, show min x z = z by omega]; exact List.mem_cons_self
    · exact .inr (List.mem_cons_of_mem _ h)
theorem foldl_max_le : ∀ (xs : List Int) (x : Int), x ≤ xs.foldl max x ∧ ∀ y ∈ xs, y ≤ xs.foldl max x
  | [], x => ⟨Int.le_refl x, fun _ m => nomatch m⟩
  | z :: xs, x => by
    obtain ⟨h1, h2⟩ := foldl_max_le xs (max x z)
    rw [List.foldl_cons]
    refine ⟨by omega, fun y m => ?_⟩
    rcases List.mem_cons.mp m with rfl | m
    · omega
    · exact h2 y m
theorem foldl_max_mem : ∀ (xs : List Int) (x : Int), xs.foldl max x = x ∨ xs.foldl max x ∈ xs
  | [], x => .inl rfl
  | z :: xs, x => by
    rw [List.foldl_cons]
    rcases foldl_max_mem xs (max x z) with h | h
    · by_cases c : z ≤ x
      · left; rw [h]; omega
      · right; rw [h, show max x z = z by omega]; exact List.mem_cons_self
    · exact .inr (List.mem_cons_of_mem _ h)
theorem minI_is {ns : List Int} {y m : Int} (h : minI ns = some y) (hm : m ∈ ns) (hle : ∀ z ∈ ns, m ≤ z) : m = y := by
  cases ns with
  | nil => cases h
  | cons x xs =>
    cases h
    obtain ⟨h1, h2⟩ := foldl_min_le xs x
    have a1 : xs.foldl min x ≤ m := by
      rcases List.mem_cons.mp hm with rfl | q
      · exact h1
      · exact h2 m q
    have a2 : m ≤ xs.foldl min x := by
      rcases foldl_min_mem xs x with q | q
      · rw [q]; exact hle x List.mem_cons_self
      · exact hle _ (List.mem_cons_of_mem _ q)
    omega
theorem maxI_is {ns : List Int} {y m : Int} (h : maxI ns = some y) (hm : m ∈ ns) (hle : ∀ z ∈ ns, z ≤ m) : m = y := by
  cases ns with
  | nil => cases h
  | cons x xs =>
    cases h
    obtain ⟨h1, h2⟩ := foldl_max_le xs x
    have a1 : m ≤ xs.foldl max x := by
      rcases List.mem_cons.mp hm with rfl | q
      · exact h1
      · exact h2 m q
    have a2 : xs.foldl max x ≤ m := by
      rcases foldl_max_mem xs x with q | q
      · rw [q]; exact hle x List.mem_cons_self
      · exact hle _ (List.mem_cons_of_mem _ q)
    omega
theorem lx_minI {g : τ → List Int} (hc : X.calm = true) (hv : LVw S (it eI) g) (hm : X.mg "min" = none) (ha : LO X G env a S e' f) (hG : ∀ p, G (e' p)) (hg : Gl X "min" := by rfl) (he : starEach (a :: []) X.env = (false, eval a X.env) :: starEach [] X.env := by rfl) (hpl : (backTo pos (starEach [] X.env)).any (·.1) = false := by rfl) :
    LX X env (.Call (.Name "min" np) [a] [] pos) (it eI) e' (fun k => f fun x p => (minI (g x)).bind fun y => k y p) :=
  lx_b1 (E := eI) (g := fun x : τ => minI (g x)) (cr_min hc) hm boot_min ha hG (fun K F H fp v x y Q hK s hy r q => by
    obtain ⟨p, vs, fps, rfl, h1, h2⟩ := hv.view s r
    have := h2.zero.2.ints
    subst this
    refine ⟨p, g x, rfl, by rw [← hK]; exact h1, ?_, fun m hmm hle => ?_⟩
    · cases hgx : g x with
      | nil => rw [hgx] at hy; cases hy
      | cons z zs => simp
    · rw [minI_is hy hmm hle]; exact q _ (.int _)) hg (by decide) (by decide) he hpl
theorem lx_maxI {g : τ → List Int} (hc : X.calm = true) (hv : LVw S (it eI) g) (hm : X.mg "max" = none) (ha : LO X G env a S e' f) (hG : ∀ p, G (e' p)) (hg : Gl X "max" := by rfl) (he : starEach (a :: []) X.env = (false, eval a X.env) :: starEach [] X.env := by rfl) (hpl : (backTo pos (starEach [] X.env)).any (·.1) = false := by rfl) :
    LX X env (.Call (.Name "max" np) [a] [] pos) (it eI) e' (fun k => f fun x p => (maxI (g x)).bind fun y => k y p) :=
  lx_b1 (E := eI) (g := fun x : τ => maxI (g x)) (cr_max hc) hm boot_max ha hG (fun K F H fp v x y Q hK s hy r q => by
    obtain ⟨p, vs, fps, rfl, h1, h2⟩ := hv.view s r
    have := h2.zero.2.ints
    subst this
    refine ⟨p, g x, rfl, by rw [← hK]; exact h1, ?_, fun m hmm hle => ?_⟩
    · cases hgx : g x with
      | nil => rw [hgx] at hy; cases hy
      | cons z zs => simp
    · rw [maxI_is hy hmm hle]; exact q _ (.int _)) hg (by decide) (by decide) he hpl
/-- list(xs) -/
theorem lx_listof (hv : LVw S (it Ea) g) (hm : X.mg "list" = none) (ha : LO X G env a S e' f) (hG : ∀ p, G (e' p)) (hg : Gl X "list" := by rfl) (he : starEach (a :: []) X.env = (false, eval a X.env) :: starEach [] X.env := by rfl) (hpl : (backTo pos (starEach [] X.env)).any (·.1) = false := by rfl) :
    LX X env (.Call (.Name "list" np) [a] [] pos) (ls (it Ea)) e' (fun k => f fun x p => k (g x) p) :=
  lx_y1n (E := Ea) (g := g) call_list_of hm PyProof.Rows.boot_list ha hG (fun K F H fp v x Q hK s r q => by
    obtain ⟨p, vs, fps, rfl, h1, h2⟩ := hv.view s r
    exact ⟨p, vs, rfl, .inl (by rw [← hK]; exact h1), fun l hl => q l vs hl h2.zero.2⟩) hg (by decide) (by decide) he hpl
end
end
end Z

set_option Elab.async false
set_option linter.all false
set_option maxRecDepth 100000
namespace Z
open PySem PySem.Spec PyProof.Rows L2

/-! ### kinds of data: depth, equality, order -/
structure Dt {τ : Type} (E : Enc τ) (n : Nat) : Prop where
  lay : ∀ x, (E.enc x).canLay0 = true
  dep : ∀ x, (E.enc x).depth ≤ n
theorem Dt.mono {τ : Type} {E : Enc τ} {n m : Nat} (h : Dt E n) (l : n ≤ m) : Dt E m := ⟨h.lay, fun x => Nat.le_trans (h.dep x) l⟩
theorem canLayAll_of : ∀ {ds : List PyData}, (∀ d ∈ ds, d.canLay0 = true) → PyData.canLayAll0 ds = true
  | [], _ => rfl
  | d :: ds, h => by
    unfold PyData.canLayAll0
    rw [h d List.mem_cons_self, canLayAll_of fun e m => h e (List.mem_cons_of_mem _ m)]; rfl
theorem depthAll_of : ∀ {ds : List PyData} {n : Nat}, (∀ d ∈ ds, d.depth ≤ n) → PyData.depthAll ds ≤ n
  | [], n, _ => by simp [PyData.depthAll]
  | d :: ds, n, h => by
    unfold PyData.depthAll
    have h1 := h d List.mem_cons_self
    have h2 := depthAll_of (ds := ds) (n := n) fun e m => h e (List.mem_cons_of_mem _ m)
    omega
theorem dtI : Dt eI 0 := ⟨fun _ => rfl, fun _ => by simp [eI, PyData.depth]⟩
theorem dtB : Dt eB 0 := ⟨fun _ => rfl, fun _ => by simp [eB, PyData.depth]⟩
theorem dtN : Dt eN 0 := ⟨fun _ => rfl, fun _ => by simp [eN, PyData.depth]⟩
theorem dtL {τ : Type} {E : Enc τ} {n : Nat} (h : Dt E n) : Dt (eL E) (n + 1) := ⟨fun x => by
  show PyData.canLay0 (.list _) = true
  rw [PyData.canLay0]
  exact canLayAll_of fun d m => by obtain ⟨y, _, rfl⟩ := List.mem_map.mp m; exact h.lay y, fun x => by
  show PyData.depth (.list _) ≤ n + 1
  rw [PyData.depth]
  have := depthAll_of (ds := x.map E.enc) (n := n) fun d m => by obtain ⟨y, _, rfl⟩ := List.mem_map.mp m; exact h.dep y
  omega⟩
theorem dtV {τ : Type} {E : Enc τ} {n : Nat} (h : Dt E n) : Dt (eV E) (n + 1) := ⟨fun x => by
  show PyData.canLay0 (.tuple _) = true
  rw [PyData.canLay0]
  exact canLayAll_of fun d m => by obtain ⟨y, _, rfl⟩ := List.mem_map.mp m; exact h.lay y, fun x => by
  show PyData.depth (.tuple _) ≤ n + 1
  rw [PyData.depth]
  have := depthAll_of (ds := x.map E.enc) (n := n) fun d m => by obtain ⟨y, _, rfl⟩ := List.mem_map.mp m; exact h.dep y
  omega⟩
theorem dt_tup {τ : Type} {E : Enc τ} {n : Nat} {ds : τ → List PyData} (he : ∀ x, E.enc x = .tuple (ds x)) (h1 : ∀ x, ∀ d ∈ ds x, d.canLay0 = true) (h2 : ∀ x, ∀ d ∈ ds x, d.depth ≤ n) : Dt E (n + 1) := ⟨fun x => by
  rw [he, PyData.canLay0]; exact canLayAll_of (h1 x), fun x => by
  rw [he, PyData.depth]
  have := depthAll_of (h2 x)
  omega⟩
section
variable {α β γ δ : Type} {A : Enc α} {B : Enc β} {G : Enc γ} {D : Enc δ} {n : Nat}
theorem dtT2 (a : Dt A n) (b : Dt B n) : Dt (eT2 A B) (n + 1) := dt_tup (ds := fun p => [A.enc p.1, B.enc p.2]) (fun _ => rfl) (fun x d m => by simp at m; rcases m with rfl | rfl; exact a.lay _; exact b.lay _) (fun x d m => by simp at m; rcases m with rfl | rfl; exact a.dep _; exact b.dep _)
theorem dtT3 (a : Dt A n) (b : Dt B n) (g : Dt G n) : Dt (eT3 A B G) (n + 1) := dt_tup (ds := fun p => [A.enc p.1, B.enc p.2.1, G.enc p.2.2]) (fun _ => rfl) (fun x d m => by simp at m; rcases m with rfl | rfl | rfl; exact a.lay _; exact b.lay _; exact g.lay _) (fun x d m => by simp at m; rcases m with rfl | rfl | rfl; exact a.dep _; exact b.dep _; exact g.dep _)
theorem dtT4 (a : Dt A n) (b : Dt B n) (g : Dt G n) (d4 : Dt D n) : Dt (eT4 A B G D) (n + 1) := dt_tup (ds := fun p => [A.enc p.1, B.enc p.2.1, G.enc p.2.2.1, D.enc p.2.2.2]) (fun _ => rfl) (fun x d m => by simp at m; rcases m with rfl | rfl | rfl | rfl; exact a.lay _; exact b.lay _; exact g.lay _; exact d4.lay _) (fun x d m => by simp at m; rcases m with rfl | rfl | rfl | rfl; exact a.dep _; exact b.dep _; exact g.dep _; exact d4.dep _)
end
/-- == of this kind is equality -/
structure Ev {τ : Type} [DecidableEq τ] (E : Enc τ) : Prop where
  eq : ∀ x y, PyData.eqv (E.enc x) (E.enc y) = decide (x = y)
theorem evI : Ev eI := ⟨fun x y => by simp [eI, PyData.eqv, Bool.beq_eq_decide_eq]⟩
theorem evB : Ev eB := ⟨fun x y => by simp [eB, PyData.eqv, Bool.beq_eq_decide_eq]⟩
theorem evN : Ev eN := ⟨fun x y => by simp [eN, PyData.eqv]⟩
theorem evS : Ev eS := ⟨fun x y => by simp only [eS, PyData.eqv]; exact Bool.beq_eq_decide_eq x y⟩
theorem eqvAll_map {τ : Type} [DecidableEq τ] {E : Enc τ} (h : Ev E) : ∀ (xs ys : List τ), PyData.eqvAll (xs.map E.enc) (ys.map E.enc) = decide (xs = ys)
  | [], [] => by simp [PyData.eqvAll]
  | [], _ :: _ => by simp [PyData.eqvAll]
  | _ :: _, [] => by simp [PyData.eqvAll]
  | x :: xs, y :: ys => by
    simp only [List.map_cons, PyData.eqvAll, h.eq, eqvAll_map h xs ys, List.cons.injEq, Bool.decide_and]
theorem evL {τ : Type} [DecidableEq τ] {E : Enc τ} (h : Ev E) : Ev (eL E) := ⟨fun x y => by simp only [eL, PyData.eqv]; exact eqvAll_map h x y⟩
theorem evV {τ : Type} [DecidableEq τ] {E : Enc τ} (h : Ev E) : Ev (eV E) := ⟨fun x y => by simp only [eV, PyData.eqv]; exact eqvAll_map h x y⟩
section
variable {α β γ δ : Type} [DecidableEq α] [DecidableEq β] [DecidableEq γ] [DecidableEq δ] {A : Enc α} {B : Enc β} {G : Enc γ} {D : Enc δ}
theorem evT2 (a : Ev A) (b : Ev B) : Ev (eT2 A B) := ⟨fun x y => by
  obtain ⟨x1, x2⟩ := x
  obtain ⟨y1, y2⟩ := y
  simp only [eT2, PyData.eqv, PyData.eqvAll, a.eq, b.eq, Bool.and_true, Prod.mk.injEq, Bool.decide_and]⟩
theorem evT3 (a : Ev A) (b : Ev B) (g : Ev G) : Ev (eT3 A B G) := ⟨fun x y => by
  obtain ⟨x1, x2, x3⟩ := x
  obtain ⟨y1, y2, y3⟩ := y
  simp only [eT3, PyData.eqv, PyData.eqvAll, a.eq, b.eq, g.eq, Bool.and_true, Prod.mk.injEq, Bool.decide_and]⟩
theorem evT4 (a : Ev A) (b : Ev B) (g : Ev G) (d : Ev D) : Ev (eT4 A B G D) := ⟨fun x y => by
  obtain ⟨x1, x2, x3, x4⟩ := x
  obtain ⟨y1, y2, y3, y4⟩ := y
  simp only [eT4, PyData.eqv, PyData.eqvAll, a.eq, b.eq, g.eq, d.eq, Bool.and_true, Prod.mk.injEq, Bool.decide_and]⟩
end
/-- an order: < of this kind -/
structure Od {τ : Type} (E : Enc τ) (lt : τ → τ → Bool) : Prop where
  lt : ∀ x y, PySem.W.dataLt (E.enc x) (E.enc y) = lt x y
  al : ∀ x y, PySem.W.alike (E.enc x) (E.enc y) = true
  nn : ∀ x, E.enc x ≠ .none
def ltI (x y : Int) : Bool := decide (x < y)
theorem odI : Od eI ltI := ⟨fun x y => by
  have h := PySem.W.minD_ints x [y]
  simp only [PySem.W.minD, List.map_cons, List.map_nil, List.foldl_cons, List.foldl_nil] at h
  have h2 := PySem.W.minD_ints y [x]
  simp only [PySem.W.minD, List.map_cons, List.map_nil, List.foldl_cons, List.foldl_nil] at h2
  show PySem.W.dataLt (.int x) (.int y) = _
  unfold ltI
  by_cases c : x < y
  · rw [decide_eq_true c]
    cases e : PySem.W.dataLt (.int x) (.int y) with
    | true => rfl
    | false =>
      rw [e] at h2
      simp at h2; omega
  · rw [decide_eq_false c]
    cases e : PySem.W.dataLt (.int x) (.int y) with
    | false => rfl
    | true =>
      rw [e] at h2
      simp at h2
      by_cases c2 : x = y
      · subst c2
        unfold PySem.W.dataLt at e
        rw [PyProof.Rows.lex_irrefl] at e
        cases e
      · omega, fun _ _ => rfl, fun _ h => by cases h⟩
section
variable {α β γ δ : Type} [DecidableEq α] [DecidableEq β] [DecidableEq γ] {A : Enc α} {B : Enc β} {G : Enc γ} {la : α → α → Bool} {lb : β → β → Bool} {lg : γ → γ → Bool}
theorem lt_cons {x y : PyData} {xs ys : List PyData} (h : PySem.W.alike x y = true) : PySem.W.dataLt (.tuple (x :: xs)) (.tuple (y :: ys)) = if PyData.eqv x y = true then PySem.W.dataLt (.tuple xs) (.tuple ys) else PySem.W.dataLt x y := by
  rw [PySem.W.dataLt_tuple, PySem.W.dataLt_tuple]
  cases e : PyData.eqv x y with
  | true => rw [if_pos rfl]; exact PySem.W.dataLt_all_yes h e
  | false => rw [if_neg Bool.false_ne_true]; exact PySem.W.dataLt_all_no h e
def lt2 (la : α → α → Bool) (lb : β → β → Bool) (x y : α × β) : Bool := if x.1 = y.1 then lb x.2 y.2 else la x.1 y.1
def lt3 (la : α → α → Bool) (lb : β → β → Bool) (lg : γ → γ → Bool) (x y : α × β × γ) : Bool := if x.1 = y.1 then (if x.2.1 = y.2.1 then lg x.2.2 y.2.2 else lb x.2.1 y.2.1) else la x.1 y.1
theorem lt_one {x y : PyData} (h : PySem.W.alike x y = true) : PySem.W.dataLt (.tuple [x]) (.tuple [y]) = PySem.W.dataLt x y := by
  rw [lt_cons h]
  cases e : PyData.eqv x y with
  | false => rw [if_neg Bool.false_ne_true]
  | true =>
    rw [if_pos rfl]
    have := (PySem.W.toks_eqv x y h).1 e
    unfold PySem.W.dataLt
    rw [this, PyProof.Rows.lex_irrefl, PyProof.Rows.lex_irrefl]
theorem odT2 (ea : Ev A) (a : Od A la) (b : Od B lb) : Od (eT2 A B) (lt2 la lb) := ⟨fun x y => by
  obtain ⟨x1, x2⟩ := x
  obtain ⟨y1, y2⟩ := y
  show PySem.W.dataLt (.tuple [A.enc x1, B.enc x2]) (.tuple [A.enc y1, B.enc y2]) = _
  rw [lt_cons (a.al _ _), lt_one (b.al _ _), ea.eq, a.lt, b.lt]
  unfold lt2
  simp only [decide_eq_true_eq], fun x y => by
  obtain ⟨x1, x2⟩ := x
  obtain ⟨y1, y2⟩ := y
  show PySem.W.alike (.tuple [A.enc x1, B.enc x2]) (.tuple [A.enc y1, B.enc y2]) = true
  simp only [PySem.W.alike, PySem.W.alikeAll, a.al, b.al, Bool.and_self], fun _ h => by cases h⟩
theorem odT3 (ea : Ev A) (eb : Ev B) (a : Od A la) (b : Od B lb) (g : Od G lg) : Od (eT3 A B G) (lt3 la lb lg) := ⟨fun x y => by
  obtain ⟨x1, x2, x3⟩ := x
  obtain ⟨y1, y2, y3⟩ := y
  show PySem.W.dataLt (.tuple [A.enc x1, B.enc x2, G.enc x3]) (.tuple [A.enc y1, B.enc y2, G.enc y3]) = _
  rw [lt_cons (a.al _ _), lt_cons (b.al _ _), lt_one (g.al _ _), ea.eq, eb.eq, a.lt, b.lt, g.lt]
  unfold lt3
  simp only [decide_eq_true_eq], fun x y => by
  obtain ⟨x1, x2, x3⟩ := x
  obtain ⟨y1, y2, y3⟩ := y
  show PySem.W.alike (.tuple [A.enc x1, B.enc x2, G.enc x3]) (.tuple [A.enc y1, B.enc y2, G.enc y3]) = true
  simp only [PySem.W.alike, PySem.W.alikeAll, a.al, b.al, g.al, Bool.and_self], fun _ h => by cases h⟩
end

/-! ### data as the layer's rules read them -/
mutual
theorem Rep.dp {K : Fg} {F H : Hp} (s : Same F H) : ∀ {v : V} {d : PyData}, Rep K F v d → d.canLay0 = true → Dp K H v d
  | _, _, .non, _ => .non
  | _, _, .bl b, _ => .bl b
  | _, _, .int i, _ => .int i
  | _, _, .str x, _ => .str x
  | _, _, .lst h r, c => .lst (SqL.of (s _ _ h)) (RepAll.dp s r (by rwa [PyData.canLay0] at c))
  | _, _, .tup h r, c => .tup (same_sqT s h) (RepAll.dp s r (by rwa [PyData.canLay0] at c))
  | _, _, .dK h r, c => by rw [PyData.canLay0] at c; cases c
  | _, _, .dT h r, c => by rw [PyData.canLay0] at c; cases c
theorem RepAll.dp {K : Fg} {F H : Hp} (s : Same F H) : ∀ {vs : List V} {ds : List PyData}, RepAll K F vs ds → PyData.canLayAll0 ds = true → DpAll K H vs ds
  | _, _, .nil, _ => .nil
  | _, _, .cons h r, c => by
    rw [PyData.canLayAll0] at c
    have c' := Bool.and_eq_true_iff.mp c
    exact .cons (Rep.dp s h c'.1) (RepAll.dp s r c'.2)
end
structure Dv {τ : Type} (S : Stor τ) (E : Enc τ) : Prop where
  dp : ∀ {K : Fg} {F H : Hp} {fp : List Addr} {v : V} {x : τ}, Same F H → (E.enc x).canLay0 = true → S.rel K F H fp v x → Dp K H v (E.enc x)
section
variable {τ τ1 τ2 α β : Type} {S : Stor τ} {S1 : Stor τ1} {S2 : Stor τ2} {E : Enc τ} {E1 : Enc τ1} {E2 : Enc τ2}
theorem dv_it : Dv (it E) E := ⟨fun s c r => r.2.dp s c⟩
theorem RelAll.dps {K : Fg} {H : Hp} {R : List Addr → V → τ → Prop} : ∀ {fp : List Addr} {vs : List V} {xs : List τ}, (∀ fq v x, R fq v x → (E.enc x).canLay0 = true → Dp K H v (E.enc x)) → PyData.canLayAll0 (xs.map E.enc) = true → RelAll R fp vs xs → DpAll K H vs (xs.map E.enc)
  | _, _, _, _, _, .nil => .nil
  | _, _, _, f, c, .cons h r => by
    rw [List.map_cons, PyData.canLayAll0] at c
    have c' := Bool.and_eq_true_iff.mp c
    exact .cons (f _ _ _ h c'.1) (RelAll.dps f c'.2 r)
theorem dv_ls (d : Dv S E) : Dv (ls S) (eL E) := ⟨fun {K F H fp v x} s c r => by
  obtain ⟨p, vs, fps, rfl, h, ra, rfl⟩ := r
  have c' : PyData.canLayAll0 (x.map E.enc) = true := by
    have : PyData.canLay0 (.list (x.map E.enc)) = true := c
    rwa [PyData.canLay0] at this
  exact .lst (SqL.of h) (ra.dps (fun _ _ _ q c => d.dp s c q) c')⟩
theorem shaped_of {d : PyData} (h1 : d.canLay0 = true) (h2 : d.depth ≤ 64) : SeqAt.shaped d = true := by
  unfold SeqAt.shaped
  rw [h1, decide_eq_true h2]; rfl
variable {X : Cx} {Ω : Type} {env : Env} {nm : Str} {pos np : Pos} {a b : Expr} {P P1 P2 : Type} {G : Env → Prop} {G1 : Env → Prop} {G2 : P1 → Env → Prop} {e' : P → Env} {e1 : P1 → Env} {e2 : P1 → P2 → Env} {fa : (τ1 → P1 → Option Ω) → Option Ω} {fb : P1 → (τ2 → P2 → Option Ω) → Option Ω}
/-- == of data of two kinds -/
theorem lc_eqD {n m : Nat} (hu : X.A.units + 64 < cLine) (d1 : Dv S1 E1) (d2 : Dv S2 E2) (t1 : Dt E1 n) (t2 : Dt E2 m) (ha : LO X G1 env a S1 e1 fa) (hb : ∀ p1, LO X (G2 p1) (e1 p1) b S2 (e2 p1) (fb p1)) (g1 : ∀ p1 p2, G1 (e2 p1 p2)) (g2 : ∀ p1 p2, G2 p1 (e2 p1 p2)) (hn : n ≤ 64 := by decide) (hm : m ≤ 64 := by decide) :
    LC X env .Eq a b (fun p : P1 × P2 => e2 p.1 p.2) (fun k => fa fun x p1 => fb p1 fun y p2 => k (PyData.eqv (E1.enc x) (E2.enc y)) (p1, p2)) :=
  lc_cmp (op_eqD hu) ha hb g1 g2 fun K F H fp fq v u x y Q hK s r1 r2 q => by
    subst hK
    exact ⟨_, _, d1.dp s (t1.lay x) r1, d2.dp s (t2.lay y) r2, shaped_of (t1.lay x) (Nat.le_trans (t1.dep x) hn), shaped_of (t2.lay y) (Nat.le_trans (t2.dep y) hm), q⟩
theorem lc_neD {n m : Nat} (hu : X.A.units + 64 < cLine) (d1 : Dv S1 E1) (d2 : Dv S2 E2) (t1 : Dt E1 n) (t2 : Dt E2 m) (ha : LO X G1 env a S1 e1 fa) (hb : ∀ p1, LO X (G2 p1) (e1 p1) b S2 (e2 p1) (fb p1)) (g1 : ∀ p1 p2, G1 (e2 p1 p2)) (g2 : ∀ p1 p2, G2 p1 (e2 p1 p2)) (hn : n ≤ 64 := by decide) (hm : m ≤ 64 := by decide) :
    LC X env .NotEq a b (fun p : P1 × P2 => e2 p.1 p.2) (fun k => fa fun x p1 => fb p1 fun y p2 => k (!PyData.eqv (E1.enc x) (E2.enc y)) (p1, p2)) :=
  lc_cmp (op_neD hu) ha hb g1 g2 fun K F H fp fq v u x y Q hK s r1 r2 q => by
    subst hK
    exact ⟨_, _, d1.dp s (t1.lay x) r1, d2.dp s (t2.lay y) r2, shaped_of (t1.lay x) (Nat.le_trans (t1.dep x) hn), shaped_of (t2.lay y) (Nat.le_trans (t2.dep y) hm), q⟩
/-- .. of any data, with a check -/
theorem lc_eqC (hu : X.A.units + 64 < cLine) (d1 : Dv S1 E1) (d2 : Dv S2 E2) (ha : LO X G1 env a S1 e1 fa) (hb : ∀ p1, LO X (G2 p1) (e1 p1) b S2 (e2 p1) (fb p1)) (g1 : ∀ p1 p2, G1 (e2 p1 p2)) (g2 : ∀ p1 p2, G2 p1 (e2 p1 p2)) :
    LC X env .Eq a b (fun p : P1 × P2 => e2 p.1 p.2) (fun k => fa fun x p1 => fb p1 fun y p2 => ck (SeqAt.shaped (E1.enc x) && SeqAt.shaped (E2.enc y)) (k (PyData.eqv (E1.enc x) (E2.enc y)) (p1, p2))) :=
  lc_cmpC (c := fun x y => SeqAt.shaped (E1.enc x) && SeqAt.shaped (E2.enc y)) (op_eqD hu) ha hb g1 g2 fun K F H fp fq v u x y Q hK s hc r1 r2 q => by
    subst hK
    obtain ⟨c1, c2⟩ := Bool.and_eq_true_iff.mp hc
    exact ⟨_, _, d1.dp s (SeqAt.canLay_of_shaped c1) r1, d2.dp s (SeqAt.canLay_of_shaped c2) r2, c1, c2, q⟩
theorem lc_neC (hu : X.A.units + 64 < cLine) (d1 : Dv S1 E1) (d2 : Dv S2 E2) (ha : LO X G1 env a S1 e1 fa) (hb : ∀ p1, LO X (G2 p1) (e1 p1) b S2 (e2 p1) (fb p1)) (g1 : ∀ p1 p2, G1 (e2 p1 p2)) (g2 : ∀ p1 p2, G2 p1 (e2 p1 p2)) :
    LC X env .NotEq a b (fun p : P1 × P2 => e2 p.1 p.2) (fun k => fa fun x p1 => fb p1 fun y p2 => ck (SeqAt.shaped (E1.enc x) && SeqAt.shaped (E2.enc y)) (k (!PyData.eqv (E1.enc x) (E2.enc y)) (p1, p2))) :=
  lc_cmpC (c := fun x y => SeqAt.shaped (E1.enc x) && SeqAt.shaped (E2.enc y)) (op_neD hu) ha hb g1 g2 fun K F H fp fq v u x y Q hK s hc r1 r2 q => by
    subst hK
    obtain ⟨c1, c2⟩ := Bool.and_eq_true_iff.mp hc
    exact ⟨_, _, d1.dp s (SeqAt.canLay_of_shaped c1) r1, d2.dp s (SeqAt.canLay_of_shaped c2) r2, c1, c2, q⟩
theorem lc_eqT [DecidableEq τ1] {S2 : Stor τ1} {fb : P1 → (τ1 → P2 → Option Ω) → Option Ω} {n : Nat} (hu : X.A.units + 64 < cLine) (d1 : Dv S1 E1) (d2 : Dv S2 E1) (t : Dt E1 n) (ev : Ev E1) (ha : LO X G1 env a S1 e1 fa) (hb : ∀ p1, LO X (G2 p1) (e1 p1) b S2 (e2 p1) (fb p1)) (g1 : ∀ p1 p2, G1 (e2 p1 p2)) (g2 : ∀ p1 p2, G2 p1 (e2 p1 p2)) (hn : n ≤ 64 := by decide) :
    LC X env .Eq a b (fun p : P1 × P2 => e2 p.1 p.2) (fun k => fa fun x p1 => fb p1 fun y p2 => k (decide (x = y)) (p1, p2)) :=
  lc_cmp (op_eqD hu) ha hb g1 g2 fun K F H fp fq v u x y Q hK s r1 r2 q => by
    subst hK
    exact ⟨_, _, d1.dp s (t.lay x) r1, d2.dp s (t.lay y) r2, shaped_of (t.lay x) (Nat.le_trans (t.dep x) hn), shaped_of (t.lay y) (Nat.le_trans (t.dep y) hn), by rw [ev.eq]; exact q⟩
theorem lc_neT [DecidableEq τ1] {S2 : Stor τ1} {fb : P1 → (τ1 → P2 → Option Ω) → Option Ω} {n : Nat} (hu : X.A.units + 64 < cLine) (d1 : Dv S1 E1) (d2 : Dv S2 E1) (t : Dt E1 n) (ev : Ev E1) (ha : LO X G1 env a S1 e1 fa) (hb : ∀ p1, LO X (G2 p1) (e1 p1) b S2 (e2 p1) (fb p1)) (g1 : ∀ p1 p2, G1 (e2 p1 p2)) (g2 : ∀ p1 p2, G2 p1 (e2 p1 p2)) (hn : n ≤ 64 := by decide) :
    LC X env .NotEq a b (fun p : P1 × P2 => e2 p.1 p.2) (fun k => fa fun x p1 => fb p1 fun y p2 => k (!decide (x = y)) (p1, p2)) :=
  lc_cmp (op_neD hu) ha hb g1 g2 fun K F H fp fq v u x y Q hK s r1 r2 q => by
    subst hK
    exact ⟨_, _, d1.dp s (t.lay x) r1, d2.dp s (t.lay y) r2, shaped_of (t.lay x) (Nat.le_trans (t.dep x) hn), shaped_of (t.lay y) (Nat.le_trans (t.dep y) hn), by rw [ev.eq]; exact q⟩
/-- is None, is not None -/
def isNone (d : PyData) : Bool := match d with
  | .none => true
  | _ => false
theorem enc_none {v : V} {K : Fg} {F : Hp} {d : PyData} (h : Rep K F v d) : decide (v = .non) = isNone d := by
  cases h <;> simp [isNone]
theorem lc_isN {fp1 : (τ1 → P1 → Option Ω) → Option Ω} {j : Nat} {cp : Pos} (ha : LX X env a (it E1) e1 fp1) : LC X env .Is a (.Constant .none j cp) (fun p : P1 × Unit => e1 p.1) (fun k => fp1 fun x p1 => k (isNone (E1.enc x)) (p1, ())) :=
  lc_cmp (g := fun x _ => isNone (E1.enc x)) op_isN (lo_of ha) (fun p1 => lo_of (lx_non (env := e1 p1))) (fun _ _ => trivial) (fun _ _ => trivial) fun K F H fp fq v u x y Q hK s r1 r2 q => by
    obtain ⟨_, r1⟩ := r1
    obtain ⟨_, r2⟩ := r2
    have r2' : Rep K F u .none := r2
    cases r2'
    exact ⟨rfl, by rw [enc_none r1]; exact q⟩
theorem lc_notN {fp1 : (τ1 → P1 → Option Ω) → Option Ω} {j : Nat} {cp : Pos} (ha : LX X env a (it E1) e1 fp1) : LC X env .IsNot a (.Constant .none j cp) (fun p : P1 × Unit => e1 p.1) (fun k => fp1 fun x p1 => k (!isNone (E1.enc x)) (p1, ())) :=
  lc_cmp (g := fun x _ => !isNone (E1.enc x)) op_notN (lo_of ha) (fun p1 => lo_of (lx_non (env := e1 p1))) (fun _ _ => trivial) (fun _ _ => trivial) fun K F H fp fq v u x y Q hK s r1 r2 q => by
    obtain ⟨_, r1⟩ := r1
    obtain ⟨_, r2⟩ := r2
    have r2' : Rep K F u .none := r2
    cases r2'
    exact ⟨rfl, by rw [enc_none r1]; exact q⟩

/-! ### min, max, sorted of lists of data -/
def rMinD (K : Fg) : List V → Hp → VK → Prop := fun vs H Q => ∃ (p : Addr) (its : List V) (x : PyData) (xs : List PyData), vs = [.ref p] ∧ SqL K H p its ∧ DpAll K H its (x :: xs) ∧ PyData.canLayAll0 (x :: xs) = true ∧ PySem.W.AlikeAll (x :: xs) ∧ PyData.depthAll (x :: xs) ≤ 60 ∧
  ∀ (i : Nat) (v : V), its[i]? = some v → (x :: xs)[i]? = some (PySem.W.minD x xs) → Q v H
def rMaxD (K : Fg) : List V → Hp → VK → Prop := fun vs H Q => ∃ (p : Addr) (its : List V) (x : PyData) (xs : List PyData), vs = [.ref p] ∧ SqL K H p its ∧ DpAll K H its (x :: xs) ∧ PyData.canLayAll0 (x :: xs) = true ∧ PySem.W.AlikeAll (x :: xs) ∧ PyData.depthAll (x :: xs) ≤ 60 ∧
  ∀ (i : Nat) (v : V), its[i]? = some v → (x :: xs)[i]? = some (PySem.W.maxD x xs) → Q v H
theorem canLay_get : ∀ {ds : List PyData} {i : Nat} {d : PyData}, PyData.canLayAll0 ds = true → ds[i]? = some d → d.canLay0 = true
  | [], _, _, _, e => by simp at e
  | d :: ds, 0, _, c, e => by
    rw [PyData.canLayAll0] at c
    simp at e; subst e
    exact (Bool.and_eq_true_iff.mp c).1
  | d :: ds, i + 1, _, c, e => by
    rw [PyData.canLayAll0] at c
    exact canLay_get (Bool.and_eq_true_iff.mp c).2 (by simpa using e)
theorem readsAll_get {h : Heap} : ∀ {us : List Value} {ds : List PyData} {as : List Addr} {i : Nat} {u : Value}, ReadsAll h us ds as → us[i]? = some u → ∃ d bs, ds[i]? = some d ∧ Reads h u d bs
  | _, _, _, _, _, .nil, e => by simp at e
  | _, _, _, 0, _, .cons r _, e => by simp at e; subst e; exact ⟨_, _, rfl, r⟩
  | _, _, _, i + 1, _, .cons _ r, e => by
    obtain ⟨d, bs, h1, h2⟩ := readsAll_get (i := i) r (by simpa using e)
    exact ⟨d, bs, by simpa using h1, h2⟩
theorem cr_minD (hc : X.calm = true) (hu : X.A.units + 64 < cLine) : CallR X (.builtin "min") (rMinD X.K) := by
  intro pins s σ H vs us Q I r h
  obtain ⟨p, its, x, xs, rfl, hs, hd, hl0, hal, hdep, q⟩ := h
  obtain ⟨uts, rv, pl, hz⟩ := I.list hs
  rw [Vals.ref1 r]
  obtain ⟨as, hr⟩ := Dp.readsAll I (x :: xs) its uts hd rv
  refine PySem.W.min_list_data (I.ok.hd hc) pl.isList hr hal (by omega) fun i u h' tk bs hi hr' hk => ?_
  have hi' : uts[i]? = some u := by simpa using hi
  obtain ⟨d, cs, e1, r1⟩ := readsAll_get hr hi'
  have r1' := PyProof.Rows.Reads.keeps hk r1
  have e2 : d = PySem.W.minD x xs := PySem.SeqAt.Reads.unique d _ u _ _ (canLay_get hl0 e1) r1' hr'
  have hlen := rv.length
  have hi2 : i < its.length := by
    have := (List.getElem?_eq_some_iff.mp hi').1
    omega
  obtain ⟨w, hw, rw'⟩ := Vals.get rv (List.getElem?_eq_getElem hi2)
  rw [hi'] at hw; cases hw
  exact ⟨_, H, I.kept hk, rw', q i _ (List.getElem?_eq_getElem hi2) (by rw [e1, e2])⟩
theorem cr_maxD (hc : X.calm = true) (hu : X.A.units + 64 < cLine) : CallR X (.builtin "max") (rMaxD X.K) := by
  intro pins s σ H vs us Q I r h
  obtain ⟨p, its, x, xs, rfl, hs, hd, hl0, hal, hdep, q⟩ := h
  obtain ⟨uts, rv, pl, hz⟩ := I.list hs
  rw [Vals.ref1 r]
  obtain ⟨as, hr⟩ := Dp.readsAll I (x :: xs) its uts hd rv
  refine PySem.W.max_list_data (I.ok.hd hc) pl.isList hr hal (by omega) fun i u h' tk bs hi hr' hk => ?_
  have hi' : uts[i]? = some u := by simpa using hi
  obtain ⟨d, cs, e1, r1⟩ := readsAll_get hr hi'
  have r1' := PyProof.Rows.Reads.keeps hk r1
  have e2 : d = PySem.W.maxD x xs := PySem.SeqAt.Reads.unique d _ u _ _ (canLay_get hl0 e1) r1' hr'
  have hlen := rv.length
  have hi2 : i < its.length := by
    have := (List.getElem?_eq_some_iff.mp hi').1
    omega
  obtain ⟨w, hw, rw'⟩ := Vals.get rv (List.getElem?_eq_getElem hi2)
  rw [hi'] at hw; cases hw
  exact ⟨_, H, I.kept hk, rw', q i _ (List.getElem?_eq_getElem hi2) (by rw [e1, e2])⟩
/-- the first least, the first greatest, by < -/
def minB {α : Type} (lt : α → α → Bool) : List α → Option α
  | [] => none
  | x :: xs => some (xs.foldl (fun a y => if lt y a = true then y else a) x)
def maxB {α : Type} (lt : α → α → Bool) : List α → Option α
  | [] => none
  | x :: xs => some (xs.foldl (fun a y => if lt a y = true then y else a) x)
theorem minD_enc {E : Enc α} {lt : α → α → Bool} (od : Od E lt) : ∀ (xs : List α) (x : α), PySem.W.minD (E.enc x) (xs.map E.enc) = E.enc (xs.foldl (fun a y => if lt y a = true then y else a) x)
  | [], x => rfl
  | y :: xs, x => by
    show List.foldl _ (if PySem.W.dataLt (E.enc y) (E.enc x) = true then E.enc y else E.enc x) (xs.map E.enc) = _
    rw [od.lt, List.foldl_cons]
    have := minD_enc od xs (if lt y x = true then y else x)
    unfold PySem.W.minD at this
    rw [← this]
    congr 1
    cases lt y x <;> simp
theorem maxD_enc {E : Enc α} {lt : α → α → Bool} (od : Od E lt) : ∀ (xs : List α) (x : α), PySem.W.maxD (E.enc x) (xs.map E.enc) = E.enc (xs.foldl (fun a y => if lt a y = true then y else a) x)
  | [], x => rfl
  | y :: xs, x => by
    show List.foldl _ (if PySem.W.dataLt (E.enc x) (E.enc y) = true then E.enc y else E.enc x) (xs.map E.enc) = _
    rw [od.lt, List.foldl_cons]
    have := maxD_enc od xs (if lt x y = true then y else x)
    unfold PySem.W.maxD at this
    rw [← this]
    congr 1
    cases lt x y <;> simp
theorem od_all {E : Enc α} {lt : α → α → Bool} (od : Od E lt) (xs : List α) : PySem.W.AlikeAll (xs.map E.enc) := ⟨fun x hx y hy => by
  obtain ⟨a, _, rfl⟩ := List.mem_map.mp hx
  obtain ⟨b, _, rfl⟩ := List.mem_map.mp hy
  exact od.al a b, fun x hx => by
  obtain ⟨a, _, rfl⟩ := List.mem_map.mp hx
  exact od.nn a⟩
section
variable {E : Enc α} {lt : α → α → Bool} {g : τ → List α} {f : (τ → P → Option Ω) → Option Ω} {n : Nat}
theorem dts {E : Enc α} (dt : Dt E n) (xs : List α) : PyData.canLayAll0 (xs.map E.enc) = true ∧ PyData.depthAll (xs.map E.enc) ≤ n :=
  ⟨canLayAll_of fun d m => by obtain ⟨y, _, rfl⟩ := List.mem_map.mp m; exact dt.lay y, depthAll_of fun d m => by obtain ⟨y, _, rfl⟩ := List.mem_map.mp m; exact dt.dep y⟩
theorem lx_minD (hc : X.calm = true) (hu : X.A.units + 64 < cLine) (od : Od E lt) (dt : Dt E n) (hv : LVw S (it E) g) (hm : X.mg "min" = none) (ha : LO X G env a S e' f) (hG : ∀ p, G (e' p)) (hn : n ≤ 60 := by decide) (hg : Gl X "min" := by rfl) (he : starEach (a :: []) X.env = (false, eval a X.env) :: starEach [] X.env := by rfl) (hpl : (backTo pos (starEach [] X.env)).any (·.1) = false := by rfl) :
    LX X env (.Call (.Name "min" np) [a] [] pos) (it E) e' (fun k => f fun x p => (minB lt (g x)).bind fun y => k y p) :=
  lx_b1 (E := E) (g := fun x : τ => minB lt (g x)) (cr_minD hc hu) hm boot_min ha hG (fun K F H fp v x y Q hK s hy r q => by
    subst hK
    obtain ⟨p, vs, fps, rfl, h1, h2⟩ := hv.view s r
    have rp := h2.zero.2
    cases hgx : g x with
    | nil => rw [hgx] at hy; cases hy
    | cons z zs =>
      rw [hgx] at hy rp
      have hy' : y = zs.foldl (fun a y => if lt y a = true then y else a) z := (Option.some.inj hy).symm
      have hd := dts dt (z :: zs)
      refine ⟨p, vs, E.enc z, zs.map E.enc, rfl, h1, rp.dp s hd.1, hd.1, od_all od (z :: zs), Nat.le_trans hd.2 hn, fun i v hi hv => ?_⟩
      rw [minD_enc od, ← hy'] at hv
      obtain ⟨w, hw, rr⟩ := rp.get (i := i) (d := E.enc y) (by rw [← hv]; rfl)
      rw [hi] at hw; cases hw
      exact q _ rr) hg (by decide) (by decide) he hpl
theorem lx_maxD (hc : X.calm = true) (hu : X.A.units + 64 < cLine) (od : Od E lt) (dt : Dt E n) (hv : LVw S (it E) g) (hm : X.mg "max" = none) (ha : LO X G env a S e' f) (hG : ∀ p, G (e' p)) (hn : n ≤ 60 := by decide) (hg : Gl X "max" := by rfl) (he : starEach (a :: []) X.env = (false, eval a X.env) :: starEach [] X.env := by rfl) (hpl : (backTo pos (starEach [] X.env)).any (·.1) = false := by rfl) :
    LX X env (.Call (.Name "max" np) [a] [] pos) (it E) e' (fun k => f fun x p => (maxB lt (g x)).bind fun y => k y p) :=
  lx_b1 (E := E) (g := fun x : τ => maxB lt (g x)) (cr_maxD hc hu) hm boot_max ha hG (fun K F H fp v x y Q hK s hy r q => by
    subst hK
    obtain ⟨p, vs, fps, rfl, h1, h2⟩ := hv.view s r
    have rp := h2.zero.2
    cases hgx : g x with
    | nil => rw [hgx] at hy; cases hy
    | cons z zs =>
      rw [hgx] at hy rp
      have hy' : y = zs.foldl (fun a y => if lt a y = true then y else a) z := (Option.some.inj hy).symm
      have hd := dts dt (z :: zs)
      refine ⟨p, vs, E.enc z, zs.map E.enc, rfl, h1, rp.dp s hd.1, hd.1, od_all od (z :: zs), Nat.le_trans hd.2 hn, fun i v hi hv => ?_⟩
      rw [maxD_enc od, ← hy'] at hv
      obtain ⟨w, hw, rr⟩ := rp.get (i := i) (d := E.enc y) (by rw [← hv]; rfl)
      rw [hi] at hw; cases hw
      exact q _ rr) hg (by decide) (by decide) he hpl
end
end
end Z

set_option Elab.async false
set_option linter.all false
set_option maxRecDepth 100000
namespace Z
open PySem PySem.Spec PyProof.Rows L2

/-- a slice, as the layer cuts it -/
def cutL {α : Type} (xs : List α) (lo hi : Option Int) : List α := (xs.drop (HT.sIx xs.length 0 lo)).take (HT.sIx xs.length xs.length hi - HT.sIx xs.length 0 lo)
section
variable {X : Cx} {Ω : Type} {env : Env} {nm : Str} {pos np sp : Pos} {a b c : Expr} {P P1 P2 P3 : Type} {τ τ1 τ2 α β : Type} {S : Stor τ} {S1 : Stor τ1} {S2 : Stor τ2} {E : Enc α} {Eb : Enc β} {G : Env → Prop} {G1 : Env → Prop} {G2 : P1 → Env → Prop} {e' : P → Env} {e1 : P1 → Env} {e2 : P1 → P2 → Env} {e3 : P1 → P2 → P3 → Env}
  {fa : (τ1 → P1 → Option Ω) → Option Ω} {fb : P1 → (τ2 → P2 → Option Ω) → Option Ω} {g1 : τ1 → List α} {g2 : τ2 → List α}
/-- xs + ys -/
theorem lx_cat (hv1 : LVm S1 (it E) g1) (hv2 : LVm S2 (it E) g2) (ha : LO X G1 env a S1 e1 fa) (hb : ∀ p1, LO X (G2 p1) (e1 p1) b S2 (e2 p1) (fb p1)) (h1 : ∀ p1 p2, G1 (e2 p1 p2)) (h2 : ∀ p1 p2, G2 p1 (e2 p1 p2)) :
    LX X env (.BinOp a .Add b pos) (ls (it E)) (fun p : P1 × P2 => e2 p.1 p.2) (fun k => fa fun x p1 => fb p1 fun y p2 => ck (decide ((g1 x).length + (g2 y).length ≤ SZ)) (k (g1 x ++ g2 y) (p1, p2))) :=
  fun C F H σs es σ k ω Q hK hl h hk q => tE.of X (pe_op op_cat (peC X) (peC X)) (op2_run ha hb h1 h2 hK hl h hk fun x p1 y p2 v u F' H' fp fq hk' h' r1 r2 => by
    obtain ⟨hc, hk'⟩ := ck_some hk'
    obtain ⟨p, vs, fps, rfl, l1, ra⟩ := hv1.view h'.sF r1
    obtain ⟨p', ws, fqs, rfl, l2, rb⟩ := hv2.view h'.sF r2
    have hc' := of_decide_eq_true hc
    have n1 := ra.length
    have n2 := rb.length
    refine ⟨p, p', vs, ws, rfl, rfl, l1, l2, by rw [SZ_eq]; omega, fun t nt => ?_⟩
    refine q (g1 x ++ g2 y) (p1, p2) (.ref t) F' _ hk' (h'.newOw nt ⟨t, vs ++ ws, [], rfl, upd_same, ?_, rfl⟩)
    have := ra.zero.2.app rb.zero.2
    rw [← List.map_append] at this
    exact this.zero)
theorem RepAll.cut {K : Fg} {F : Hp} {vs : List V} {xs : List α} (lo hi : Option Int) (h : RepAll K F vs (xs.map E.enc)) : RepAll K F (cutV vs lo hi) ((cutL xs lo hi).map E.enc) := by
  have hl : vs.length = xs.length := by have := h.length; simpa using this
  unfold cutV cutL
  rw [hl, List.map_take, List.map_drop]
  exact (h.drop _).take _
/-- xs[i:j] -/
theorem lx_sl2 {fi : P1 → (Int → P2 → Option Ω) → Option Ω} {fj : P1 → P2 → (Int → P3 → Option Ω) → Option Ω} (hv : LVw S1 (it E) g1) (ha : LX X env a S1 e1 fa) (hi : ∀ p1, LX X (e1 p1) b (it eI) (e2 p1) (fi p1)) (hj : ∀ p1 p2, LX X (e2 p1 p2) c (it eI) (e3 p1 p2) (fj p1 p2)) :
    LX X env (.Subscript a (.Slice (some b) (some c) none sp) pos) (ls (it E)) (fun p : P1 × P2 × P3 => e3 p.1 p.2.1 p.2.2) (fun k => fa fun x p1 => fi p1 fun i p2 => fj p1 p2 fun j p3 => k (cutL (g1 x) (some i) (some j)) (p1, p2, p3)) :=
  fun C F H σs es σ k ω Q hK hl h hk q => tE.of X (pe_slice sl_list (peC X) (po_some (peC X)) (po_some (peC X))) (ha C F H σs es σ _ ω _ hK hl h hk fun x p1 v F1 H1 hk1 h1 => by
    refine hi p1 C F1 H1 (some v :: σs) (.st none τ1 S1 x :: es) σ _ ω _ hK (by simp [hl]) h1 hk1 fun i p2 u F2 H2 hk2 h2 => ?_
    have hu : u = .int i := by
      obtain ⟨v', fp, e1, r⟩ := h2.look (i := 0) rfl
      simp at e1; subst e1
      obtain ⟨_, r⟩ := r
      cases r; rfl
    subst hu
    refine ⟨i, rfl, hj p1 p2 C F2 H2 (some v :: σs) (.st none τ1 S1 x :: es) σ _ ω _ hK (by simp [hl]) h2.pop hk2 fun j p3 u F3 H3 hk3 h3 => ?_⟩
    have hu : u = .int j := by
      obtain ⟨v', fp, e1, r⟩ := h3.look (i := 0) rfl
      simp at e1; subst e1
      obtain ⟨_, r⟩ := r
      cases r; rfl
    subst hu
    obtain ⟨v', fp, ee, r⟩ := ER.look (i := 0) (show ER C F3 H3 (some v :: (σs ++ σ)) (.st none τ1 S1 x :: (es ++ e3 p1 p2 p3)) from h3.pop) rfl
    simp at ee; subst ee
    obtain ⟨p, vs, fps, rfl, l1, ra⟩ := hv.view h3.sF r
    refine ⟨j, rfl, p, vs, rfl, by rw [← hK]; exact l1, fun t nt => ?_⟩
    exact q _ (p1, p2, p3) (.ref t) F3 _ hk3 (ER.newOw (show ER C F3 H3 (σs ++ σ) (es ++ e3 p1 p2 p3) from h3.pop.pop) nt ⟨t, _, [], rfl, upd_same, (ra.zero.2.cut (some i) (some j)).zero, rfl⟩))
/-- xs[i:] -/
theorem lx_slL {fi : P1 → (Int → P2 → Option Ω) → Option Ω} (hv : LVw S1 (it E) g1) (ha : LX X env a S1 e1 fa) (hi : ∀ p1, LX X (e1 p1) b (it eI) (e2 p1) (fi p1)) :
    LX X env (.Subscript a (.Slice (some b) none none sp) pos) (ls (it E)) (fun p : P1 × P2 => e2 p.1 p.2) (fun k => fa fun x p1 => fi p1 fun i p2 => k (cutL (g1 x) (some i) none) (p1, p2)) :=
  fun C F H σs es σ k ω Q hK hl h hk q => tE.of X (pe_slice sl_list (peC X) (po_some (peC X)) po_none) (op2_run (lo_of ha) (fun p1 => lo_of (hi p1)) (fun _ _ => trivial) (fun _ _ => trivial) (R := fun x y H => ∃ i, y = .int i ∧ rSlL X.K x (some i) none H Q) hK hl h hk
    (fun x p1 i p2 v u F' H' fp fq hk' h' r1 r2 => by
      obtain ⟨_, r2⟩ := r2
      cases r2
      obtain ⟨p, vs, fps, rfl, l1, ra⟩ := hv.view h'.sF r1
      exact ⟨i, rfl, p, vs, rfl, by rw [← hK]; exact l1, fun t nt => q _ (p1, p2) (.ref t) F' _ hk' (h'.newOw nt ⟨t, _, [], rfl, upd_same, (ra.zero.2.cut (some i) none).zero, rfl⟩)⟩))
/-- xs[:j] -/
theorem lx_slR {fi : P1 → (Int → P2 → Option Ω) → Option Ω} (hv : LVw S1 (it E) g1) (ha : LX X env a S1 e1 fa) (hi : ∀ p1, LX X (e1 p1) b (it eI) (e2 p1) (fi p1)) :
    LX X env (.Subscript a (.Slice none (some b) none sp) pos) (ls (it E)) (fun p : P1 × P2 => e2 p.1 p.2) (fun k => fa fun x p1 => fi p1 fun j p2 => k (cutL (g1 x) none (some j)) (p1, p2)) :=
  fun C F H σs es σ k ω Q hK hl h hk q => tE.of X (pe_slice sl_list (peC X) po_none (po_some (peC X))) (op2_run (lo_of ha) (fun p1 => lo_of (hi p1)) (fun _ _ => trivial) (fun _ _ => trivial) (R := fun x y H => ∃ i, y = .int i ∧ rSlL X.K x none (some i) H Q) hK hl h hk
    (fun x p1 i p2 v u F' H' fp fq hk' h' r1 r2 => by
      obtain ⟨_, r2⟩ := r2
      cases r2
      obtain ⟨p, vs, fps, rfl, l1, ra⟩ := hv.view h'.sF r1
      exact ⟨i, rfl, p, vs, rfl, by rw [← hK]; exact l1, fun t nt => q _ (p1, p2) (.ref t) F' _ hk' (h'.newOw nt ⟨t, _, [], rfl, upd_same, (ra.zero.2.cut none (some i)).zero, rfl⟩)⟩))

/-! ### sorted -/
def rSortD (K : Fg) : List V → Hp → VK → Prop := fun vs H Q => ∃ (p : Addr) (its : List V) (ds : List PyData), vs = [.ref p] ∧ SqL K H p its ∧ DpAll K H its ds ∧ PySem.W.AllAlike ds ∧ PySem.W.Sortable ds ∧ (∀ d ∈ ds, d.depth ≤ 60) ∧
  ∀ t, H t = none → Q (.ref t) (upd H t (.lst (((its.zip ds).mergeSort (PySem.W.dataLe false Prod.snd)).map Prod.fst)))
theorem eachIs_zip {its : List V} {ds : List PyData} {us : List Value} (h : Vals its us) : its.length = ds.length → PySem.W.EachIs (fun (u : Value) (p : V × PyData) => RelV p.1 u) us (its.zip ds) := by
  intro hl
  induction h generalizing ds with
  | nil => cases ds with
    | nil => exact .nil
    | cons d ds => simp at hl
  | cons r t ih => cases ds with
    | nil => simp at hl
    | cons d ds => exact .cons r (ih (by simpa using hl))
theorem eachIs_reads {h : Heap} {its : List V} {ds : List PyData} {us : List Value} {as : List Addr} (hr : ReadsAll h us ds as) (hl : its.length = ds.length) : PySem.W.EachIs (fun (u : Value) (p : V × PyData) => ∃ as, Reads h u p.2 as) us (its.zip ds) := by
  induction us generalizing its ds as with
  | nil => cases hr; cases its with
    | nil => exact .nil
    | cons _ _ => simp at hl
  | cons u us ih =>
    cases hr with
    | cons r1 r2 => cases its with
      | nil => simp at hl
      | cons v its => exact .cons ⟨_, r1⟩ (ih r2 (by simpa using hl))
theorem eachIs_vals {out : List Value} {ps : List (V × PyData)} (h : PySem.W.EachIs (fun (u : Value) (p : V × PyData) => RelV p.1 u) out ps) : Vals (ps.map Prod.fst) out := by
  induction h with
  | nil => exact .nil
  | cons r _ ih => exact .cons r ih
theorem dpAll_length {K : Fg} {H : Hp} : ∀ {vs : List V} {ds : List PyData}, DpAll K H vs ds → vs.length = ds.length
  | _, _, .nil => rfl
  | _, _, .cons _ r => congrArg (· + 1) (dpAll_length r)
theorem cr_sortD (hu : X.A.units + 64 < cLine) : CallR X (.builtin "sorted") (rSortD X.K) := by
  intro pins s σ H vs us Q I r h
  obtain ⟨p, its, ds, rfl, hs, hd, hal, hso, hdep, q⟩ := h
  obtain ⟨uts, rv, pl, hz⟩ := I.list hs
  rw [Vals.ref1 r]
  obtain ⟨as, hr⟩ := Dp.readsAll I ds its uts hd rv
  have hl := dpAll_length hd
  have hm : (its.zip ds).map Prod.snd = ds := by rw [List.map_snd_zip (by omega)]
  refine PySem.W.sorted_data (enc := Prod.snd) (bs := its.zip ds) (R := fun (u : Value) (p : V × PyData) => RelV p.1 u) pl.isList (eachIs_zip rv hl) (eachIs_reads hr hl) (by rw [hm]; exact hal) (by rw [hm]; exact hso) (by rw [List.length_zip]; omega) (fun b hb => ?_) fun out ho eo => ?_
  · have : b.2 ∈ ds := by rw [← hm]; exact List.mem_map_of_mem hb
    have := hdep _ this
    omega
  · obtain ⟨ep, he'⟩ := PyProof.Rows.sortedAll_at s.heap uts out.toArray
    have rv' := eachIs_vals eo
    have hlen : (((its.zip ds).mergeSort (PySem.W.dataLe false Prod.snd)).map Prod.fst).length ≤ sizeLine := by
      rw [List.length_map, List.length_mergeSort, List.length_zip]; omega
    exact ⟨.ref _, upd H (s.heap.objs.size + 1) (.lst (((its.zip ds).mergeSort (PySem.W.dataLe false Prod.snd)).map Prod.fst)), I.laid (t' := s.toks) (fun _ _ => PyProof.Rows.sortedAll_old) (Nat.le_succ _) ⟨hlen, out, ep, rv', he'⟩, rfl, q _ (I.hok.fresh (Nat.le_succ _))⟩
/-- sorted by <, equal ones as they stood -/
def sortB {α : Type} (lt : α → α → Bool) (xs : List α) : List α := xs.mergeSort fun x y => !lt y x
/-- tuples that are not empty, or no tuples -/
structure So (E : Enc α) : Prop where
  so : (∀ x, ∃ y r, E.enc x = .tuple (y :: r)) ∨ ∀ x, E.enc x ≠ .none ∧ ∀ r, E.enc x ≠ .tuple r
theorem soI : So eI := ⟨.inr fun _ => ⟨(fun h => by cases h), (fun _ h => by cases h)⟩⟩
theorem soT2 {A : Enc α} {B : Enc β} : So (eT2 A B) := ⟨.inl fun _ => ⟨_, _, rfl⟩⟩
theorem soT3 {γ : Type} {A : Enc α} {B : Enc β} {D : Enc γ} : So (eT3 A B D) := ⟨.inl fun _ => ⟨_, _, rfl⟩⟩
theorem soT4 {γ δ : Type} {A : Enc α} {B : Enc β} {D : Enc γ} {D' : Enc δ} : So (eT4 A B D D') := ⟨.inl fun _ => ⟨_, _, rfl⟩⟩
theorem zip_rep {K : Fg} {F : Hp} : ∀ {vs : List V} {xs : List α}, RepAll K F vs (xs.map E.enc) → (vs.zip (xs.map E.enc)) = (vs.zip xs).map fun p => (p.1, E.enc p.2)
  | [], _, _ => rfl
  | _ :: _, [], h => by cases h
  | v :: vs, x :: xs, h => by
    cases h with
    | cons h1 h2 =>
      show (v, E.enc x) :: vs.zip (xs.map E.enc) = (v, E.enc x) :: (vs.zip xs).map _
      rw [zip_rep h2]
theorem rep_zip {K : Fg} {F : Hp} : ∀ {vs : List V} {xs : List α}, RepAll K F vs (xs.map E.enc) → ∀ p ∈ vs.zip xs, Rep K F p.1 (E.enc p.2)
  | [], _, _, p, m => by simp at m
  | _ :: _, [], h, _, _ => by cases h
  | v :: vs, x :: xs, h, p, m => by
    cases h with
    | cons h1 h2 =>
      rcases List.mem_cons.mp m with rfl | m
      · exact h1
      · exact rep_zip h2 p m
theorem RepAll.of_pairs {K : Fg} {F : Hp} : ∀ (ps : List (V × α)), (∀ p ∈ ps, Rep K F p.1 (E.enc p.2)) → RepAll K F (ps.map Prod.fst) ((ps.map Prod.snd).map E.enc)
  | [], _ => .nil
  | p :: ps, h => .cons (h p List.mem_cons_self) (RepAll.of_pairs ps fun q m => h q (List.mem_cons_of_mem _ m))
theorem sort_pairs {K : Fg} {F : Hp} {lt : α → α → Bool} (od : Od E lt) {vs : List V} {xs : List α} (h : RepAll K F vs (xs.map E.enc)) :
    RepAll K F (((vs.zip (xs.map E.enc)).mergeSort (PySem.W.dataLe false Prod.snd)).map Prod.fst) ((sortB lt xs).map E.enc) := by
  have hl : vs.length = xs.length := by have := h.length; simpa using this
  have e0 : ((vs.zip xs).mergeSort fun p q => !lt q.2 p.2).map (fun p => (p.1, E.enc p.2)) = (vs.zip (xs.map E.enc)).mergeSort (PySem.W.dataLe false Prod.snd) := by
    rw [zip_rep h]
    refine PySem.W.sort_maps _ fun p _ q _ => ?_
    rw [PySem.W.dataLe_eq]
    show (!lt q.2 p.2) = !PySem.W.dataLt (E.enc q.2) (E.enc p.2)
    rw [od.lt]
  rw [← e0, List.map_map]
  have e1 : ((vs.zip xs).mergeSort fun p q => !lt q.2 p.2).map Prod.snd = sortB lt xs := by
    unfold sortB
    rw [PySem.W.sort_maps (s := fun x y => !lt y x) Prod.snd (fun p _ q _ => rfl), List.map_snd_zip (by omega)]
  rw [← e1]
  exact RepAll.of_pairs _ fun p m => rep_zip h p (List.mem_mergeSort.mp m)
theorem lx_sorted {lt : α → α → Bool} {n : Nat} {g : τ → List α} {f : (τ → P → Option Ω) → Option Ω} (hu : X.A.units + 64 < cLine) (od : Od E lt) (so : So E) (dt : Dt E n) (hv : LVw S (it E) g) (hm : X.mg "sorted" = none) (ha : LO X G env a S e' f) (hG : ∀ p, G (e' p)) (hn : n ≤ 60 := by decide) (hg : Gl X "sorted" := by rfl) (he : starEach (a :: []) X.env = (false, eval a X.env) :: starEach [] X.env := by rfl) (hpl : (backTo pos (starEach [] X.env)).any (·.1) = false := by rfl) :
    LX X env (.Call (.Name "sorted" np) [a] [] pos) (ls (it E)) e' (fun k => f fun x p => (some (sortB lt (g x))).bind fun y => k y p) :=
  lx_b1n (E := E) (g := fun x : τ => some (sortB lt (g x))) (cr_sortD hu) hm PyProof.Rows.boot_sorted ha hG (fun K F H fp v x y Q hK s hy r q => by
    subst hK
    cases hy
    obtain ⟨p, vs, fps, rfl, h1, h2⟩ := hv.view s r
    have rp := h2.zero.2
    have hd := dts dt (g x)
    refine ⟨p, vs, (g x).map E.enc, rfl, h1, rp.dp s hd.1, (od_all od (g x)).1, ?_, fun d m => by obtain ⟨y, _, rfl⟩ := List.mem_map.mp m; exact Nat.le_trans (dt.dep y) hn, fun t nt => q t _ nt (sort_pairs od rp)⟩
    rcases so.so with so | so
    · exact .inl fun d m => by obtain ⟨y, _, rfl⟩ := List.mem_map.mp m; exact so y
    · exact .inr fun d m => by obtain ⟨y, _, rfl⟩ := List.mem_map.mp m; exact so y) hg (by decide) (by decide) he hpl

/-! ### enumerate, zip -/
def enumL {α : Type} (xs : List α) : List (Int × α) := xs.zipIdx.map fun p => ((p.2 : Int), p.1)
theorem enumL_get {α : Type} (xs : List α) (i : Nat) : (enumL xs)[i]? = (xs[i]?).map fun x => ((i : Int), x) := by
  unfold enumL
  rw [List.getElem?_map, List.getElem?_zipIdx]
  cases xs[i]? <;> simp
theorem li_enum {f : (τ → P → Option Ω) → Option Ω} {g : τ → List α} {elts : List Expr} {kk : Nat} {tp p : Pos} (hg : Gl X "enumerate") (hm : X.mg "enumerate" = none) (hv : LVw S (it E) g) (h : LX X env a S e' f) (hs : starEach [a] X.env = [(false, eval a X.env)] := by rfl) (hs4 : starEach [a] X.env = (false, eval a X.env) :: starEach [] X.env := by rfl) :
    LI X env (.Tuple elts kk tp) (.Call (.Name "enumerate" p) [a] [] pos) (it (eT2 eI E)) e' (fun k => f fun x q => k (enumL (g x)) q) :=
  fun C F H σs es σ k ω R hK hl hr hk q => tI.of X (pi_enum hg hm (pa_cons (peC X) pa_nil hs4) hs) (h C F H σs es σ _ ω _ hK hl hr hk fun x p v F' H' hk' h' => by
    obtain ⟨v', fp, e1, r⟩ := h'.look (i := 0) rfl
    simp at e1; subst e1
    obtain ⟨p0, vs, fps, rfl, hs, ra⟩ := hv.view h'.sF r
    refine ⟨p0, vs, rfl, by rw [← hK]; exact hs, q (enumL (g x)) p (Ite X.K p0) F' H' [some (.ref p0)] [.st none τ S x] hk' h' ⟨rfl, fun i F2 H2 σ2 σb e2 eb hl2 h2 => ?_⟩⟩
    obtain ⟨v', fp', e1, r'⟩ := h2.look (i := e2.length + 0) (by rw [at_app _ rfl]; rfl)
    rw [at_app _ hl2] at e1
    simp at e1; subst e1
    obtain ⟨p1, ws, fps', e3, hs', ra'⟩ := hv.view h2.sF r'
    cases e3
    rw [hK] at hs'
    have rp := ra'.zero.2
    rw [enumL_get]
    refine ⟨fun y hy => ?_, fun hn => ?_⟩
    · cases hgi : (g x)[i]? with
      | none => rw [hgi] at hy; cases hy
      | some z =>
        rw [hgi] at hy
        cases hy
        obtain ⟨w, hw, rw'⟩ := rp.get (i := i) (d := E.enc z) (by rw [List.getElem?_map, hgi]; rfl)
        refine ⟨⟨ws, w, hs', hw⟩, fun v H' hy' => ?_⟩
        obtain ⟨T, w', rfl, nT, rfl, hy'⟩ := hy'
        have := hy' ws hs'
        rw [hw] at this; cases this
        refine ⟨upd F2 T (.tup [.int (i : Nat), w]), (h2.newF nT).pushSh ?_⟩
        exact .tup (SqT.of upd_same) (.cons (.int _) (.cons (rw'.mono (same_new (h2.fnone nT))) .nil))
    · refine ⟨ws, hs', ?_⟩
      have := rp.length
      simp at this
      cases hgi : (g x)[i]? with
      | none => have := List.getElem?_eq_none_iff.mp hgi; omega
      | some z => rw [hgi] at hn; cases hn)
theorem li_zip {fa : (τ1 → P1 → Option Ω) → Option Ω} {fb : P1 → (τ2 → P2 → Option Ω) → Option Ω} {g2 : τ2 → List β} {elts : List Expr} {kk : Nat} {tp p : Pos} (hg : Gl X "zip") (hm : X.mg "zip" = none) (hv : LVw S1 (it E) g1) (hv2 : LVw S2 (it Eb) g2) (h : LX X env a S1 e1 fa) (h2 : ∀ p1, LX X (e1 p1) b S2 (e2 p1) (fb p1))
    (hs : starEach [a, b] X.env = (false, eval a X.env) :: starEach [b] X.env := by rfl) (hs4 : starEach [b] X.env = (false, eval b X.env) :: starEach [] X.env := by rfl) (hpl : (backTo pos (starEach [b] X.env)).any (·.1) = false := by rfl) :
    LI X env (.Tuple elts kk tp) (.Call (.Name "zip" p) [a, b] [] pos) (it (eT2 E Eb)) (fun q : P1 × P2 => e2 q.1 q.2) (fun k => fa fun x p1 => fb p1 fun y p2 => k ((g1 x).zip (g2 y)) (p1, p2)) :=
  fun C F H σs es σ k ω R hK hl hr hk q => tI.of X (pi_zip hg hm (pa_cons (peC X) (pa_cons (peC X) pa_nil hs4) hs) hs hpl) (h C F H σs es σ _ ω _ hK hl hr hk fun x p1 v F1 H1 hk1 h1 =>
    h2 p1 C F1 H1 (some v :: σs) (.st none τ1 S1 x :: es) σ _ ω _ hK (by simp [hl]) h1 hk1 fun y p2 u F' H' hk' h' => by
      have h'' : ER C F' H' ([some u, some v] ++ (σs ++ σ)) ([.st none τ2 S2 y, .st none τ1 S1 x] ++ (es ++ e2 p1 p2)) := h'
      obtain ⟨u', fq, eq1, rq⟩ := h''.look (i := 0) rfl
      simp at eq1; subst eq1
      obtain ⟨v', fp, ev1, rv⟩ := h''.look (i := 1) rfl
      simp at ev1; subst ev1
      obtain ⟨pb, ws, fqs, rfl, hsb, rb⟩ := hv2.view h''.sF rq
      obtain ⟨pa, vs, fps, rfl, hsa, ra⟩ := hv.view h''.sF rv
      refine ⟨pa, pb, vs, ws, rfl, by rw [← hK]; exact hsa, by rw [← hK]; exact hsb, q ((g1 x).zip (g2 y)) (p1, p2) (Itz X.K pa pb) F' H' [some (.ref pb), some (.ref pa)] [.st none τ2 S2 y, .st none τ1 S1 x] hk' h'' ⟨rfl, fun i F2 H2 σ2 σb e2' eb hl2 h3 => ?_⟩⟩
      obtain ⟨u', fq', eq1, rq'⟩ := h3.look (i := e2'.length + 0) (by rw [at_app _ rfl]; rfl)
      rw [at_app _ hl2] at eq1
      simp at eq1; subst eq1
      obtain ⟨v', fp', ev1, rv'⟩ := h3.look (i := e2'.length + 1) (by rw [at_app _ rfl]; rfl)
      rw [at_app _ hl2] at ev1
      simp at ev1; subst ev1
      obtain ⟨pb', ws', fqs', e5, hsb', rb'⟩ := hv2.view h3.sF rq'
      obtain ⟨pa', vs', fps', e6, hsa', ra'⟩ := hv.view h3.sF rv'
      cases e5; cases e6
      rw [hK] at hsb' hsa'
      have rpb := rb'.zero.2
      have rpa := ra'.zero.2
      have lb := rpb.length
      have la := rpa.length
      simp at lb la
      refine ⟨fun z hz => ?_, fun hn => ?_⟩
      · rw [List.getElem?_zip_eq_some] at hz
        obtain ⟨hz1, hz2⟩ := hz
        obtain ⟨w1, hw1, rw1⟩ := rpa.get (i := i) (d := E.enc z.1) (by rw [List.getElem?_map, hz1]; rfl)
        obtain ⟨w2, hw2, rw2⟩ := rpb.get (i := i) (d := Eb.enc z.2) (by rw [List.getElem?_map, hz2]; rfl)
        refine ⟨⟨vs', ws', w1, w2, hsa', hsb', hw1, hw2⟩, fun v H' hy' => ?_⟩
        obtain ⟨T, x1, x2, rfl, nT, rfl, hy1, hy2⟩ := hy'
        have t1 := hy1 vs' hsa'
        have t2 := hy2 ws' hsb'
        rw [hw1] at t1; cases t1
        rw [hw2] at t2; cases t2
        refine ⟨upd F2 T (.tup [w1, w2]), (h3.newF nT).pushSh ?_⟩
        have sm := same_new (u := HO.tup [w1, w2]) (h3.fnone nT)
        exact .tup (SqT.of upd_same) (.cons (rw1.mono sm) (.cons (rw2.mono sm) .nil))
      · refine ⟨vs', ws', hsa', hsb', ?_⟩
        have := List.getElem?_eq_none_iff.mp hn
        rw [List.length_zip] at this
        omega)
end
section
variable {X : Cx} {R I Ω : Type} {SR : Stor R} {envR : I → Env} {kr : R → I → Option Ω} {bk ct : Lp Ω} {env : Env} {nm : Str} {pos : Pos} {e : Expr} {rest : List Stmt} {P : Type} {τ α : Type} {S : Stor τ} {E : Enc α} {e' : P → Env} {J : Type} {envJ : J → Env} {g : τ → List α}
/-- x.extend(ys), x a list of one's own -/
theorem lb_ext {f : (τ → P → Option Ω) → Option Ω} {fr : τ → P → (J → Option Ω) → Option Ω} {w : Option V} {x0 : List α} {xs : P → List α} {ap cp np : Pos} (i : Nat) (h0 : env[i]? = some (.st w (List α) (ls (it E)) x0)) (hvw : LVm S (it E) g)
    (he : LX X env e S e' f) (h1 : ∀ p, (e' p)[i]? = some (.st w (List α) (ls (it E)) (xs p))) (hr : ∀ y p, LB X SR envR kr bk ct ((e' p).set i (.st w (List α) (ls (it E)) (xs p ++ g y))) rest envJ (fr y p))
    (hN : X.N[i]? = some nm := by rfl) (hv : Vis X.env.scope nm := by first | exact Or.inl rfl | exact Or.inr (Or.inl rfl) | exact Or.inr (Or.inr rfl))
    (hd : (nm == ("__debug__" : Str)) = false := by decide) (hcd : (nm == ("__classdict__" : Str)) = false := by decide)
    (hbase : attributeBase (.Name nm np) "extend" X.env (eval (.Name nm np) X.env) = eval (.Name nm np) X.env := by rfl)
    (hfew : ((backTo cp (starEach [e] X.env)).all (fun x => !x.1) && (backToKw cp (keywordEach [] X.env)).all (fun x => x.1.isSome) && decide ([e].length + ([] : List Keyword).length + (if ([] : List Keyword).isEmpty then 0 else 1) < 30)) = true := by rfl)
    (hline : (ap.endLine == cp.line) = true := by rfl) (hse : starEach [e] X.env = (false, eval e X.env) :: starEach [] X.env := by rfl) (hplain : (backTo cp (starEach [] X.env)).any (·.1) = false := by rfl)
    (hsw : swapsWith (.Call (.Attribute (.Name nm np) "extend" ap) [e] [] cp) none pos.line X.env = pure false := by rfl) :
    LB X SR envR kr bk ct env (.Expr (.Call (.Attribute (.Name nm np) "extend" ap) [e] [] cp) pos :: rest) envJ (fun kn => f fun y p => ck (decide ((xs p).length + (g y).length ≤ SZ)) (fr y p kn)) :=
  fun C F H σs es σ kn ω D hK hl h hk qn qb qc qr => tSs.of X (pss_cons (ps_expr (pe_bm PySem.F.plainAttrs_list PySem.F.slot_list_extend PySem.F.type_list_extend mt_extend (pe_var hN hv hd hcd) (pa_cons (peC X) pa_nil hse) hbase hfew hline hse hplain) hsw) (pssC X)) (by
    obtain ⟨l, fp, e1, r⟩ := h.lookF hl h0
    obtain ⟨q0, vs0, fps0, rfl, hq0, _, _⟩ := r
    refine ⟨_, e1, .inl ⟨rfl, vs0, SqL.of hq0⟩, he C F H σs es σ _ ω _ hK hl h hk fun y p v F' H' hk' h' => ?_⟩
    obtain ⟨hc, hk'⟩ := ck_some hk'
    have hc' := of_decide_eq_true hc
    obtain ⟨v', fpy, ey, ry⟩ := h'.look (i := 0) rfl
    simp at ey; subst ey
    obtain ⟨pb, zs, fps, rfl, hb, rb⟩ := hvw.view h'.sF ry
    have rpb := rb.zero.2
    obtain ⟨l', fp', e4, r1, nd, ow, fin⟩ := (ER.pop h').mut (i := es.length + i) (by rw [at_app _ rfl]; exact h1 p)
    rw [at_app _ hl, e1] at e4
    cases e4
    obtain ⟨q1, vs, fps', e5, hq, ra, rfl⟩ := r1
    cases e5
    obtain ⟨rfl, rp⟩ := ra.zero
    have n1 : vs.length = (xs p).length := by have := rp.length; simpa using this
    have n2 : zs.length = (g y).length := by have := rpb.length; simpa using this
    refine ⟨q0, pb, vs, zs, rfl, rfl, hq, hb, by rw [SZ_eq]; omega, ?_⟩
    have fin' := fin (List α) (ls (it E)) (xs p ++ g y) (upd H' q0 (.lst (vs ++ zs))) [q0] (fun a na _ => upd_ne fun z => na (by rw [z]; simp)) (fun a m => ?_) ⟨q0, vs ++ zs, [], rfl, upd_same, ?_, rfl⟩ (by simp) (fun a m => ?_)
    · rw [List.set_append_right _ _ (Nat.le_add_right _ _), Nat.add_sub_cancel_left] at fin'
      exact hr y p C F' _ σs es σ kn ω D hK hl fin' hk' qn qb qc qr
    · by_cases z : a = q0
      · subst z; rw [upd_same]; exact fun z => by cases z
      · rw [upd_ne z]; exact m
    · have := rp.app rpb
      rw [← List.map_append] at this
      exact this.zero
    · simp at m; subst m
      exact ⟨by rw [upd_same]; exact (fun z => by cases z), .inl (by simp)⟩)
end
/-! ### the script; the last step -/
theorem lv_scr : LVw scr (it eI) id := ⟨fun {K F H fp v x} s r => by
  obtain ⟨_, a, rfl, q⟩ := r
  exact ⟨a, _, [], rfl, s.seq q, (RepAll.ofInts x).zero⟩⟩
theorem lb_use {X : Cx} {R I Ω J : Type} {SR : Stor R} {envR : I → Env} {kr : R → I → Option Ω} {bk ct : Lp Ω} {env : Env} {sts : List Stmt} {envJ : J → Env} {f f' : (J → Option Ω) → Option Ω} (h : LB X SR envR kr bk ct env sts envJ f) (e : f = f') : LB X SR envR kr bk ct env sts envJ f' := e ▸ h
theorem lx_use {X : Cx} {Ω P τ : Type} {S : Stor τ} {env : Env} {e : Expr} {env' : P → Env} {f f' : (τ → P → Option Ω) → Option Ω} (h : LX X env e S env' f) (q : f = f') : LX X env e S env' f' := q ▸ h
end Z

set_option Elab.async false
set_option linter.all false
set_option maxRecDepth 100000
namespace Z
open PySem PySem.Spec PyProof.Rows L2

/-! ### a state [n, cells]: a list that holds an int and a list of ints of its own -/
abbrev TSt := Int × List Int
def stT : Stor TSt where
  rel := fun _ _ H fp v t => ∃ p q, v = .ref p ∧ H p = some (.lst [.int t.1, .ref q]) ∧ H q = some (.lst (t.2.map V.int)) ∧ fp = [p, q]
  monoF := fun _ h => h
  frame := fun f h => by
    obtain ⟨p, q, rfl, h1, h2, rfl⟩ := h
    exact ⟨p, q, rfl, by rw [f p (by simp)]; exact h1, by rw [f q (by simp)]; exact h2, rfl⟩
/-- the same without the list: it stands at q -/
def stA (q : Addr) : Stor Int where
  rel := fun _ _ H fp v n => ∃ p, v = .ref p ∧ H p = some (.lst [.int n, .ref q]) ∧ fp = [p]
  monoF := fun _ h => h
  frame := fun f h => by
    obtain ⟨p, rfl, h1, rfl⟩ := h
    exact ⟨p, rfl, by rw [f p (by simp)]; exact h1, rfl⟩
section
variable {C : Ck} {F H : Hp} {σ : List (Option V)} {env : Env}
/-- the list of a state under a name of its own -/
theorem ER.split {i j : Nat} {w : V} {t : TSt} (h : ER C F H σ env) (e : env[i]? = some (.st (some w) TSt stT t)) (ej : env[j]? = some .un) : ∃ p q, σ[i]? = some (some (.ref p)) ∧ H p = some (.lst [.int t.1, .ref q]) ∧
    ER C F H (σ.set j (some (.ref q))) ((env.set i (.st (some w) Int (stA q) t.1)).set j (.st (some (.ref q)) (List Int) (ls (it eI)) t.2)) := by
  obtain ⟨fp, k⟩ := h.sl
  have hi := lt_of_get e
  have hj := lt_of_get ej
  have ne : i ≠ j := fun z => by subst z; rw [e] at ej; cases ej
  obtain ⟨v, e1, ⟨p, q, rfl, h1, h2, hf⟩, e2, k2⟩ := k.ok i _ e
  have e1' : σ[i]? = some (some (.ref p)) := by
    cases z : σ[i]? with
    | none => rw [z] at e1; cases e1
    | some o => rw [z] at e1; exact congrArg some e1
  have own := k.own i hi
  have nd := k.nd i hi
  rw [hf] at own nd k2
  have hpq : p ≠ q := by simpa using nd
  have mem : ∀ a, (a = p ∨ a = q) → a ∈ fp i := fun a m => by rw [hf]; simpa using m
  refine ⟨p, q, e1', h1, h.sB, h.sF, h.gr, h.up, by simp [h.len], fun l => if l = i then [p] else if l = j then [q] else fp l, fun l s el => ?_, fun l hl a ha => ?_, fun l m hl hm a ha hb => ?_, fun l hl => ?_⟩
  · by_cases zj : l = j
    · subst zj
      rw [List.getElem?_set_self (by simpa using hj)] at el
      cases el
      simp only [if_neg (fun z : l = i => ne z.symm), if_pos]
      have hls : l < σ.length := by rw [h.len]; exact hj
      refine ⟨.ref q, by rw [List.getElem?_set_self hls]; rfl, ⟨q, t.2.map V.int, [], rfl, h2, (RepAll.ofInts t.2).zero, rfl⟩, rfl, fun a m => ?_⟩
      simp at m; subst m
      exact k2 a (by simp)
    · rw [List.getElem?_set_ne (fun z => zj z.symm)] at el
      by_cases zi : l = i
      · subst zi
        rw [List.getElem?_set_self hi] at el
        cases el
        simp only [if_pos]
        refine ⟨.ref p, by rw [List.getElem?_set_ne (fun z => zj z.symm)]; exact e1, ⟨p, rfl, h1, rfl⟩, e2, fun a m => ?_⟩
        simp at m; subst m
        exact k2 a (by simp)
      · rw [List.getElem?_set_ne (fun z => zi z.symm)] at el
        simp only [if_neg zi, if_neg zj]
        rw [List.getElem?_set_ne (fun z => zj z.symm)]
        exact k.ok l s el
  · have hl' : l < env.length := by simpa using hl
    by_cases zi : l = i
    · simp only [if_pos zi] at ha
      simp at ha; subst ha
      exact own a (by simp)
    · simp only [if_neg zi] at ha
      by_cases zj : l = j
      · simp only [if_pos zj] at ha
        simp at ha; subst ha
        exact own a (by simp)
      · simp only [if_neg zj] at ha
        exact k.own l hl' a ha
  · have hl' : l < env.length := by simpa using hl
    have hm' : m < env.length := by simpa using hm
    have cl : ∀ l, l < env.length → a ∈ (if l = i then [p] else if l = j then [q] else fp l) → (l = i ∧ a = p) ∨ (l = j ∧ a = q) ∨ (l ≠ i ∧ l ≠ j ∧ a ∈ fp l) := fun l hl ha => by
      by_cases zi : l = i
      · simp only [if_pos zi] at ha; simp at ha; exact .inl ⟨zi, ha⟩
      · simp only [if_neg zi] at ha
        by_cases zj : l = j
        · simp only [if_pos zj] at ha; simp at ha; exact .inr (.inl ⟨zj, ha⟩)
        · simp only [if_neg zj] at ha; exact .inr (.inr ⟨zi, zj, ha⟩)
    rcases cl l hl' ha with ⟨a1, a2⟩ | ⟨a1, a2⟩ | ⟨a1, a2, a3⟩
    · rcases cl m hm' hb with ⟨b1, b2⟩ | ⟨b1, b2⟩ | ⟨b1, b2, b3⟩
      · rw [a1, b1]
      · exact absurd (a2.symm.trans b2) hpq
      · exact absurd (k.sep m i hm' hi a b3 (mem a (.inl a2))) b1
    · rcases cl m hm' hb with ⟨b1, b2⟩ | ⟨b1, b2⟩ | ⟨b1, b2, b3⟩
      · exact absurd (b2.symm.trans a2) hpq
      · rw [a1, b1]
      · exact absurd (k.sep m i hm' hi a b3 (mem a (.inr a2))) b1
    · rcases cl m hm' hb with ⟨b1, b2⟩ | ⟨b1, b2⟩ | ⟨b1, b2, b3⟩
      · exact absurd (k.sep l i hl' hi a a3 (mem a (.inl b2))) a1
      · exact absurd (k.sep l i hl' hi a a3 (mem a (.inr b2))) a1
      · exact k.sep l m hl' hm' a a3 b3
  · have hl' : l < env.length := by simpa using hl
    by_cases zi : l = i
    · simp only [if_pos zi]; simp
    · simp only [if_neg zi]
      by_cases zj : l = j
      · simp only [if_pos zj]; simp
      · simp only [if_neg zj]; exact k.nd l hl'
/-- .. and together again -/
theorem ER.join {i j : Nat} {w : V} {q : Addr} {n : Int} {cs : List Int} (h : ER C F H σ env) (e : env[i]? = some (.st (some w) Int (stA q) n)) (ej : env[j]? = some (.st (some (.ref q)) (List Int) (ls (it eI)) cs)) :
    ER C F H σ ((env.set i (.st (some w) TSt stT (n, cs))).set j .un) := by
  obtain ⟨fp, k⟩ := h.sl
  have hi := lt_of_get e
  have hj := lt_of_get ej
  obtain ⟨v, e1, ⟨p, rfl, h1, hf⟩, e2, k2⟩ := k.ok i _ e
  obtain ⟨u, u1, ⟨q', vs, fps, rfl, h2, ra, hg⟩, u2, u3⟩ := k.ok j _ ej
  have hq : q' = q := by cases u2; rfl
  subst hq
  obtain ⟨rfl, rp⟩ := ra.zero
  have hv := rp.ints
  subst hv
  have ne : i ≠ j := fun z => by
    subst z
    rw [e1] at u1
    have e3 : p = q' := by
      have := Option.some.inj u1
      cases this; rfl
    subst e3
    rw [h1] at h2
    have e4 := Option.some.inj h2
    have e5 : [V.int n, V.ref p] = cs.map V.int := by injection e4
    cases cs with
    | nil => simp at e5
    | cons a cs => cases cs with
      | nil => simp at e5
      | cons b cs => simp at e5
  have ownp := k.own i hi p (by rw [hf]; simp)
  have ownq := k.own j hj q' (by rw [hg]; simp)
  have hpq : p ≠ q' := fun z => by
    subst z
    exact ne (k.sep i j hi hj p (by rw [hf]; simp) (by rw [hg]; simp))
  refine ⟨h.sB, h.sF, h.gr, h.up, by simp [h.len], fun l => if l = i then [p, q'] else if l = j then [] else fp l, fun l s el => ?_, fun l hl a ha => ?_, fun l m hl hm a ha hb => ?_, fun l hl => ?_⟩
  · by_cases zj : l = j
    · subst zj
      rw [List.getElem?_set_self (by simpa using hj)] at el
      cases el
      simp only [if_neg (fun z : l = i => ne z.symm), if_pos]
      rfl
    · rw [List.getElem?_set_ne (fun z => zj z.symm)] at el
      by_cases zi : l = i
      · subst zi
        rw [List.getElem?_set_self hi] at el
        cases el
        simp only [if_pos]
        refine ⟨.ref p, e1, ⟨p, q', rfl, h1, h2, rfl⟩, e2, fun a m => ?_⟩
        simp at m
        rcases m with rfl | rfl
        · exact k2 a (by rw [hf]; simp)
        · exact u3 a (by rw [hg]; simp)
      · rw [List.getElem?_set_ne (fun z => zi z.symm)] at el
        simp only [if_neg zi, if_neg zj]
        exact k.ok l s el
  · have hl' : l < env.length := by simpa using hl
    by_cases zi : l = i
    · simp only [if_pos zi] at ha
      simp at ha
      rcases ha with rfl | rfl
      · exact ownp
      · exact ownq
    · simp only [if_neg zi] at ha
      by_cases zj : l = j
      · simp [if_pos zj] at ha
      · simp only [if_neg zj] at ha
        exact k.own l hl' a ha
  · have hl' : l < env.length := by simpa using hl
    have hm' : m < env.length := by simpa using hm
    have cl : ∀ l, l < env.length → a ∈ (if l = i then [p, q'] else if l = j then [] else fp l) → (l = i ∧ (a ∈ fp i ∨ a ∈ fp j)) ∨ (l ≠ i ∧ l ≠ j ∧ a ∈ fp l) := fun l hl ha => by
      by_cases zi : l = i
      · simp only [if_pos zi] at ha; simp at ha
        refine .inl ⟨zi, ?_⟩
        rcases ha with rfl | rfl
        · exact .inl (by rw [hf]; simp)
        · exact .inr (by rw [hg]; simp)
      · simp only [if_neg zi] at ha
        by_cases zj : l = j
        · simp [if_pos zj] at ha
        · simp only [if_neg zj] at ha; exact .inr ⟨zi, zj, ha⟩
    rcases cl l hl' ha with ⟨a1, a2⟩ | ⟨a1, a2, a3⟩
    · rcases cl m hm' hb with ⟨b1, b2⟩ | ⟨b1, b2, b3⟩
      · rw [a1, b1]
      · rcases a2 with a2 | a2
        · exact absurd (k.sep m i hm' hi a b3 a2) b1
        · exact absurd (k.sep m j hm' hj a b3 a2) b2
    · rcases cl m hm' hb with ⟨b1, b2⟩ | ⟨b1, b2, b3⟩
      · rcases b2 with b2 | b2
        · exact absurd (k.sep l i hl' hi a a3 b2) a1
        · exact absurd (k.sep l j hl' hj a a3 b2) a2
      · exact k.sep l m hl' hm' a a3 b3
  · have hl' : l < env.length := by simpa using hl
    by_cases zi : l = i
    · simp only [if_pos zi]; simp [hpq]
    · simp only [if_neg zi]
      by_cases zj : l = j
      · simp [if_pos zj]
      · simp only [if_neg zj]; exact k.nd l hl'
/-- a new state of a number and a list -/
theorem ER.joinTop {p q : Addr} {n : Int} {cs : List Int} (h : ER C F H (some (.ref p) :: some (.ref q) :: σ) (.st none Int (stA q) n :: .st none (List Int) (ls (it eI)) cs :: env)) : ER C F H (some (.ref p) :: σ) (.st none TSt stT (n, cs) :: env) := by
  obtain ⟨fp, k⟩ := h.sl
  obtain ⟨v, e1, ⟨p', rfl, h1, hf⟩, k2⟩ := k.ok 0 _ rfl
  simp at e1; subst e1
  obtain ⟨u, u1, ⟨q', vs, fps, rfl, h2, ra, hg⟩, u3⟩ := k.ok 1 _ rfl
  simp at u1; subst u1
  obtain ⟨rfl, rp⟩ := ra.zero
  have hv := rp.ints
  subst hv
  have l0 : 0 < (Slot.st none Int (stA q) n :: Slot.st none (List Int) (ls (it eI)) cs :: env).length := by simp
  have l1 : 1 < (Slot.st none Int (stA q) n :: Slot.st none (List Int) (ls (it eI)) cs :: env).length := by simp
  have ownp := k.own 0 l0 p (by rw [hf]; simp)
  have ownq := k.own 1 l1 q (by rw [hg]; simp)
  have hpq : p ≠ q := fun z => by
    subst z
    have := k.sep 0 1 l0 l1 p (by rw [hf]; simp) (by rw [hg]; simp)
    omega
  have hp := h.pop.pop
  refine ⟨hp.sB, hp.sF, hp.gr, hp.up, by simp [hp.len], _, Fps.push (fp := fun l => fp (l + 2)) ⟨fun l s el => ?_, fun l hl a ha => ?_, fun l m hl hm a ha hb => ?_, fun l hl => ?_⟩ (fq := [p, q]) ⟨_, rfl, ⟨p, q, rfl, h1, h2, rfl⟩, fun a m => ?_⟩ (fun a m => ?_) (by simp [hpq]) fun l hl a ha m => ?_⟩
  · have := k.ok (l + 2) s (by simpa using el)
    simpa using this
  · exact k.own (l + 2) (by simpa using hl) a ha
  · have := k.sep (l + 2) (m + 2) (by simpa using hl) (by simpa using hm) a ha hb
    omega
  · exact k.nd (l + 2) (by simpa using hl)
  · simp at m
    rcases m with rfl | rfl
    · exact k2 a (by rw [hf]; simp)
    · exact u3 a (by rw [hg]; simp)
  · simp at m
    rcases m with rfl | rfl
    · exact ownp
    · exact ownq
  · simp at m
    rcases m with rfl | rfl
    · have := k.sep (l + 2) 0 (by simpa using hl) l0 a ha (by rw [hf]; simp); omega
    · have := k.sep (l + 2) 1 (by simpa using hl) l1 a ha (by rw [hg]; simp); omega
end
section
variable {X : Cx} {R I Ω : Type} {SR : Stor R} {envR : I → Env} {kr : R → I → Option Ω} {bk ct : Lp Ω} {env : Env} {nm nm2 : Str} {pos : Pos} {a b e : Expr} {rest : List Stmt} {P P1 P2 : Type} {J : Type} {envJ : J → Env} {e' : P → Env} {e1 : P1 → Env} {e2 : P1 → P2 → Env}
/-- cells = state[1] -/
theorem lb_alias {f : (J → Option Ω) → Option Ω} {w : V} {t : TSt} {p1 p2 cp sp : Pos} {k : Nat} (i j : Nat) (hN : X.N.Nodup) (he : env[i]? = some (.st (some w) TSt stT t)) (hj : env[j]? = some .un)
    (hr : ∀ q, LB X SR envR kr bk ct ((env.set i (.st (some w) Int (stA q) t.1)).set j (.st (some (.ref q)) (List Int) (ls (it eI)) t.2)) rest envJ f)
    (hi : X.N[i]? = some nm := by rfl) (hv_nm : Vis X.env.scope nm := by first | exact Or.inl rfl | exact Or.inr (Or.inl rfl) | exact Or.inr (Or.inr rfl)) (hd : (nm == ("__debug__" : Str)) = false := by decide) (hcd : (nm == ("__classdict__" : Str)) = false := by decide)
    (hi2 : X.N[j]? = some nm2 := by rfl) (hx : Loc X.env.scope nm2 := by first | exact Or.inl rfl | exact Or.inr rfl) (hf : X.fn nm2 = true ∨ X.env.scope.names.lookup nm2 = some .local := by first | exact .inl rfl | exact .inr rfl)
    (hs : swapsWith (.Subscript (.Name nm p1) (.Constant (.int 1) k cp) sp) (some (.Name nm2 p2)) pos.line X.env = pure false := by rfl) :
    LB X SR envR kr bk ct env (.Assign [.Name nm2 p2] (.Subscript (.Name nm p1) (.Constant (.int 1) k cp) sp) pos :: rest) envJ f :=
  fun C F H σs es σ kn ω D hK hl h hk qn qb qc qr => tSs.of X (pss_cons (ps_set hN hi2 hx (pe_ix ix_list (pe_var hi hv_nm hd hcd) pe_int fun _ _ => rfl) hs hf) (pssC X)) (by
    obtain ⟨p, q, s1, h1, h2⟩ := h.split (i := es.length + i) (j := es.length + j) (by rw [at_app _ rfl]; exact he) (by rw [at_app _ rfl]; exact hj)
    rw [at_app _ hl] at s1
    rw [← hl, List.set_append_right _ _ (Nat.le_add_right _ _), Nat.add_sub_cancel_left, hl, List.set_append_right _ _ (Nat.le_add_right _ _), Nat.add_sub_cancel_left, List.set_append_right _ _ (Nat.le_add_right _ _), Nat.add_sub_cancel_left] at h2
    exact ⟨_, s1, p, [.int t.1, .ref q], 1, .ref q, rfl, rfl, SqL.of h1, rfl, hr q C F H σs es _ kn ω D hK hl h2 hk qn qb qc qr⟩)
/-- the list is the state's again -/
theorem lb_join {sts : List Stmt} {f : (J → Option Ω) → Option Ω} {w : V} {q : Addr} {n : Int} {cs : List Int} (i j : Nat) (he : env[i]? = some (.st (some w) Int (stA q) n)) (hj : env[j]? = some (.st (some (.ref q)) (List Int) (ls (it eI)) cs))
    (hr : LB X SR envR kr bk ct ((env.set i (.st (some w) TSt stT (n, cs))).set j .un) sts envJ f) : LB X SR envR kr bk ct env sts envJ f :=
  fun C F H σs es σ kn ω D hK hl h hk qn qb qc qr => by
    have h2 := h.join (i := es.length + i) (j := es.length + j) (by rw [at_app _ rfl]; exact he) (by rw [at_app _ rfl]; exact hj)
    rw [List.set_append_right _ _ (Nat.le_add_right _ _), Nat.add_sub_cancel_left, List.set_append_right _ _ (Nat.le_add_right _ _), Nat.add_sub_cancel_left] at h2
    exact hr C F H σs es σ kn ω D hK hl h2 hk qn qb qc qr
/-- state[0] -/
theorem lx_st0 {w : Option V} {q : Addr} {n : Int} {p1 cp sp : Pos} {k : Nat} (i : Nat) (he : env[i]? = some (.st w Int (stA q) n)) (hi : X.N[i]? = some nm := by rfl) (hv_nm : Vis X.env.scope nm := by first | exact Or.inl rfl | exact Or.inr (Or.inl rfl) | exact Or.inr (Or.inr rfl)) (hd : (nm == ("__debug__" : Str)) = false := by decide) (hcd : (nm == ("__classdict__" : Str)) = false := by decide) :
    LX X env (.Subscript (.Name nm p1) (.Constant (.int 0) k cp) sp) (it eI) (fun _ : Unit => env) (fun (k : Int → Unit → Option Ω) => k n ()) :=
  fun C F H σs es σ k ω Q hK hl h hk q => tE.of X (pe_ix ix_list (pe_var hi hv_nm hd hcd) pe_int fun _ _ => rfl) (by
    obtain ⟨v, fp, e1, p, rfl, h1, _⟩ := h.lookF hl he
    exact ⟨_, e1, p, _, 0, .int n, rfl, rfl, SqL.of h1, rfl, q n () _ F H hk (h.pushSh (.int n))⟩)
/-- state[0] = e -/
theorem lb_st0 {f : (Int → P → Option Ω) → Option Ω} {fr : Int → P → (J → Option Ω) → Option Ω} {w : Option V} {q : Addr} {n : P → Int} {p1 cp sp : Pos} {k : Nat} (i : Nat) (he : LX X env e (it eI) e' f) (h1 : ∀ p, (e' p)[i]? = some (.st w Int (stA q) (n p)))
    (hr : ∀ y p, LB X SR envR kr bk ct ((e' p).set i (.st w Int (stA q) y)) rest envJ (fr y p)) (hi : X.N[i]? = some nm := by rfl) (hv_nm : Vis X.env.scope nm := by first | exact Or.inl rfl | exact Or.inr (Or.inl rfl) | exact Or.inr (Or.inr rfl)) (hd : (nm == ("__debug__" : Str)) = false := by decide) (hcd : (nm == ("__classdict__" : Str)) = false := by decide)
    (ha : ∀ v, assign (.Subscript (.Name nm p1) (.Constant (.int 0) k cp) sp) X.env v = (do
      let ov ← holding [v] (eval (.Name nm p1) X.env)
      let iv ← holding [v, ov] (eval (.Constant (.int 0) k cp) X.env)
      standAt sp
      holding [v, ov, iv] (setItem ov iv v)
      release [v, ov, iv] []) := by intro _; rfl)
    (hs : swapsWithSole [.Subscript (.Name nm p1) (.Constant (.int 0) k cp) sp] e pos.line X.env = pure false := by rfl) (hw : swappedStores [.Subscript (.Name nm p1) (.Constant (.int 0) k cp) sp] e X.env = pure none := by rfl) (ha1 : (assignEach [.Subscript (.Name nm p1) (.Constant (.int 0) k cp) sp] X.env).map (·.2) = [assign (.Subscript (.Name nm p1) (.Constant (.int 0) k cp) sp) X.env] := by rfl) :
    LB X SR envR kr bk ct env (.Assign [.Subscript (.Name nm p1) (.Constant (.int 0) k cp) sp] e pos :: rest) envJ (fun kn => f fun y p => fr y p kn) :=
  fun C F H σs es σ kn ω D hK hl h hk qn qb qc qr => tSs.of X (pss_cons (ps_asg (peC X) (pg_sub (pe_var hi hv_nm hd hcd) pe_int set_list ha) hs hw ha1) (pssC X)) (he C F H σs es σ _ ω _ hK hl h hk fun y p v F' H' hk' h' => by
    have hvy : v = .int y := by
      obtain ⟨v', fp, e1, r⟩ := h'.look (i := 0) rfl
      simp at e1; subst e1
      obtain ⟨_, r⟩ := r
      cases r; rfl
    subst hvy
    obtain ⟨l, fp, e1, r1, nd, ow, fin⟩ := (ER.pop h').mut (i := es.length + i) (by rw [at_app _ rfl]; exact h1 p)
    rw [at_app _ hl] at e1
    obtain ⟨p0, rfl, h2, rfl⟩ := r1
    refine ⟨_, e1, p0, _, 0, 0, rfl, rfl, h2, rfl, ?_⟩
    have fin' := fin Int (stA q) y (upd H' p0 (.lst [.int y, .ref q])) [p0] (fun a na _ => upd_ne fun z => na (by rw [z]; simp)) (fun a m => ?_) ⟨p0, rfl, upd_same, rfl⟩ (by simp) (fun a m => ?_)
    · rw [List.set_append_right _ _ (Nat.le_add_right _ _), Nat.add_sub_cancel_left] at fin'
      exact hr y p C F' _ σs es σ kn ω D hK hl fin' hk' qn qb qc qr
    · by_cases z : a = p0
      · subst z; rw [upd_same]; exact fun z => by cases z
      · rw [upd_ne z]; exact m
    · simp at m; subst m
      exact ⟨by rw [upd_same]; exact (fun z => by cases z), .inl (by simp)⟩)
/-- [n, cells] -/
theorem lx_st {fa : (Int → P1 → Option Ω) → Option Ω} {fb : P1 → (List Int → P2 → Option Ω) → Option Ω} (ha : LX X env a (it eI) e1 fa) (hb : ∀ p, LX X (e1 p) b (ls (it eI)) (e2 p) (fb p))
    (hs : starEach [a, b] X.env = (false, eval a X.env) :: starEach [b] X.env := by rfl) (hs2 : starEach [b] X.env = (false, eval b X.env) :: starEach [] X.env := by rfl) :
    LX X env (.List [a, b] pos) stT (fun p : P1 × P2 => e2 p.1 p.2) (fun k => fa fun x p1 => fb p1 fun y p2 => k (x, y) (p1, p2)) :=
  fun C F H σs es σ k ω Q hK hl h hk q => tE.of X (pe_lst (pa_cons (peC X) (pa_cons (peC X) pa_nil hs2) hs)) (ha C F H σs es σ _ ω _ hK hl h hk fun x p1 v F1 H1 hk1 h1 =>
    hb p1 C F1 H1 (some v :: σs) (.st none Int (it eI) x :: es) σ _ ω _ hK (by simp [hl]) h1 hk1 fun y p2 u F2 H2 hk2 h2 => by
      have hvx : v = .int x := by
        obtain ⟨v', fp, e1, r⟩ := h2.look (i := 1) rfl
        simp at e1; subst e1
        obtain ⟨_, r⟩ := r
        cases r; rfl
      subst hvx
      obtain ⟨u', fp, e1, q0, vs, fps, rfl, hq, _, _⟩ := h2.look (i := 0) rfl
      simp at e1; subst e1
      refine ⟨by show 2 ≤ sizeLine; rw [SZ_eq]; decide, fun t nt => ?_⟩
      have z2 : ER C F2 H2 ([some (.ref q0)] ++ some (.int x) :: (σs ++ σ)) ([.st none (List Int) (ls (it eI)) y] ++ .st none Int (it eI) x :: (es ++ e2 p1 p2)) := h2
      have h3 : ER C F2 H2 (some (.ref q0) :: (σs ++ σ)) (.st none (List Int) (ls (it eI)) y :: (es ++ e2 p1 p2)) := ER.pop (ER.rot z2 rfl)
      have h4 := h3.newOw (S := stA q0) (x := x) (v := .ref t) nt ⟨t, rfl, upd_same, rfl⟩
      exact q (x, y) (p1, p2) (.ref t) F2 _ hk2 h4.joinTop)
/-- x, y = a, b -/
theorem lb_par {τ1 τ2 : Type} {S1 : Stor τ1} {S2 : Stor τ2} {f : ((τ1 × τ2 × Unit) → P → Option Ω) → Option Ω} {fr : τ1 → τ2 → P → (J → Option Ω) → Option Ω} {px py pt : Pos} {kt k2 : Nat} {pt2 : Pos} (i j : Nat) (hN : X.N.Nodup) (hc : X.calm = true) (ha : LA X env [a, b] (fun p : τ1 × τ2 × Unit => [.st none τ1 S1 p.1, .st none τ2 S2 p.2.1]) e' f)
    (hr : ∀ x y p, LB X SR envR kr bk ct (((e' p).set i (.st none τ1 S1 x)).set j (.st none τ2 S2 y)) rest envJ (fr x y p))
    (hi : X.N[i]? = some nm := by rfl) (hj : X.N[j]? = some nm2 := by rfl) (hij : i ≠ j := by decide) (hx : X.env.scope.names.lookup nm = some .local := by rfl) (hy : X.env.scope.names.lookup nm2 = some .local := by rfl)
    (hli : ∀ p, i < (e' p).length := by exact (fun _ => Nat.lt_of_sub_eq_succ rfl)) (hlj : ∀ p, j < (e' p).length := by exact (fun _ => Nat.lt_of_sub_eq_succ rfl))
    (hw : swappedStores [.Tuple [.Name nm px, .Name nm2 py] kt pt] (.Tuple [a, b] k2 pt2) X.env = pure (some [nm, nm2]) := by rfl)
    (hs : swapsWithSole [.Tuple [.Name nm px, .Name nm2 py] kt pt] (.Tuple [a, b] k2 pt2) pos.line X.env = pure false := by rfl) :
    LB X SR envR kr bk ct env (.Assign [.Tuple [.Name nm px, .Name nm2 py] kt pt] (.Tuple [a, b] k2 pt2) pos :: rest) envJ (fun kn => f fun r p => fr r.1 r.2.1 p kn) :=
  fun C F H σs es σ kn ω D hK hl h hk qn qb qc qr => tSs.of X (pss_cons (ps_par hc hN hi hj hij hx hy (paC X) hw hs) (pssC X)) (ha C F H σs es σ _ ω _ hK hl h hk fun r p vs F' H' hk' hv h' => by
    match vs, hv with
    | [v, u], _ =>
      refine ⟨v, u, rfl, ?_⟩
      have h2 := ER.asg (σs := some u :: σs) (es := .st none τ2 S2 r.2.1 :: es) (σ := σ) (env := e' p) h' (by simp [hl]) (hli p)
      have h3 := ER.asg (σs := σs) (es := es) (σ := σ.set i (some v)) h2 hl (by simpa using hlj p)
      exact hr r.1 r.2.1 p C F' H' σs es _ kn ω D hK hl h3 hk' qn qb qc qr)
/-- from a law's call to its def's promise -/
theorem law_sp {K : Fg} {H : Hp} {a : Addr} {ns : List Int} {m : List Int × Unit → Option Bool} {Q : VK} {E : XK} (hS : SqL K H a (ns.map V.int)) (hm : m (ns, ()) = some true) (q : ∀ H', Q (.bl true) H') :
    spP K (fun a : List Int × Unit => [.st none (List Int) scr a.1]) (it eB) m [.ref a] H Q E := by
  refine ⟨H, H, (ns, ()), true, hm, rfl, ⟨fun _ _ e => e, fun _ _ e => e, fun _ m => .inl m, fun _ m => m, rfl, fun _ => [], fun i s e => ?_, fun i hi a ha => (nomatch ha), fun i j _ _ a ha => (nomatch ha), fun i _ => List.nodup_nil⟩, fun F' H' v h => ?_⟩
  · match i, e with
    | 0, e =>
      cases e
      exact ⟨_, rfl, ⟨rfl, a, rfl, hS⟩, fun _ m => nomatch m⟩
    | i + 1, e => simp at e
  · have hv : v = .bl true := by
      obtain ⟨v', fp, e1, r⟩ := h.look (i := 0) rfl
      simp at e1; subst e1
      obtain ⟨_, r⟩ := r
      cases r; rfl
    rw [hv]; exact q H'
end
end Z

set_option Elab.async false
set_option linter.all false
set_option maxRecDepth 100000
namespace Z
open PySem PySem.Spec PyProof.Rows L2

/-! ### the mirrors in plain words -/
section
variable {α β S Ω : Type}
theorem ixN_nat {n i : Nat} (h : i < n) : ixN n (i : Int) = some i := by
  unfold ixN
  rw [if_pos (by omega), if_pos (by omega), Int.toNat_natCast]
theorem atI_nat {xs : List α} {i : Nat} (h : i < xs.length) : atI xs (i : Int) = some xs[i] := by
  unfold atI
  rw [ixN_nat h]
  exact List.getElem?_eq_getElem h
theorem atI_pos {xs : List α} {i : Int} (h0 : 0 ≤ i) (h1 : i < xs.length) : ∃ (k : Nat) (h : k < xs.length), i = k ∧ atI xs i = some xs[k] :=
  by
  obtain ⟨k, rfl⟩ := Int.eq_ofNat_of_zero_le h0
  exact ⟨k, by omega, rfl, atI_nat (by omega)⟩
theorem rangeL_nat (n : Nat) : rangeL 0 (n : Int) = (List.range n).map fun i : Nat => ((i : Nat) : Int) := by
  unfold rangeL
  simp
theorem mem_rangeL {n : Nat} {x : Int} : x ∈ rangeL 0 (n : Int) ↔ ∃ i : Nat, i < n ∧ x = i := by
  rw [rangeL_nat]
  simp only [List.mem_map, List.mem_range]
  exact ⟨fun ⟨i, h, e⟩ => ⟨i, h, e.symm⟩, fun ⟨i, h, e⟩ => ⟨i, h, e.symm⟩⟩
theorem rgOk_nat {n : Nat} (h : n < 2 ^ 62) : rgOk 0 (n : Int) = true := by
  unfold rgOk
  have h2 : (n : Int) < 2 ^ 62 := by exact_mod_cast h
  exact decide_eq_true ⟨by decide, by decide, by omega, h2⟩
theorem mulOk_l {i j : Int} (h0 : 0 ≤ i) (h : i < 2 ^ 64) : mulOk i j = true := decide_eq_true (.inl ⟨by omega, h⟩)
theorem mulOk_r {i j : Int} (h0 : 0 ≤ j) (h : j < 2 ^ 64) : mulOk i j = true := decide_eq_true (.inr ⟨by omega, h⟩)
theorem divOk_pos {j : Int} (h0 : 0 < j) (h : j < 1073741824) : divOk j = true := decide_eq_true ⟨by omega, by omega⟩
theorem modOk_pos {j : Int} (h0 : 0 < j) : modOk j = true := decide_eq_true (by omega)
theorem ck_wp {b : Bool} {k : Option Ω} {ω : Ω} (h : b = true) (hk : k = some ω) : ck b k = some ω := by rw [h]; exact hk
theorem bind_wp {o : Option α} {k : α → Option Ω} {ω : Ω} {a : α} (h : o = some a) (hk : k a = some ω) : o.bind k = some ω := by rw [h]; exact hk
/-- a for, by an invariant over the turns -/
theorem forO_wpN {ω : Ω} (Inv : Nat → S → Prop) {b : α → S → (S → Option Ω) → Option Ω} {k : S → Option Ω} : ∀ (xs : List α) (n : Nat) (s : S), Inv n s →
    (∀ i s x, xs[i]? = some x → Inv (n + i) s → ∀ kc : S → Option Ω, (∀ s', Inv (n + i + 1) s' → kc s' = some ω) → b x s kc = some ω) → (∀ s, Inv (n + xs.length) s → k s = some ω) → forO xs s b k = some ω
  | [], n, s, h0, _, he => he s h0
  | x :: xs, n, s, h0, hs, he => hs 0 s x rfl h0 _ fun s' h' => forO_wpN Inv xs (n + 1) s' h'
      (fun i s y e h kc hk => hs (i + 1) s y e (by rw [show n + (i + 1) = n + 1 + i by omega]; exact h) kc fun s' h' => hk s' (by rw [show n + 1 + i + 1 = n + (i + 1) + 1 by omega]; exact h'))
      fun s h => he s (by rw [show n + (x :: xs).length = n + 1 + xs.length by simp; omega]; exact h)
/-- .. by one that stays -/
theorem forO_wp {ω : Ω} (Inv : S → Prop) {b : α → S → (S → Option Ω) → Option Ω} {k : S → Option Ω} {xs : List α} {s : S} (h0 : Inv s)
    (hs : ∀ s x, x ∈ xs → Inv s → ∀ kc : S → Option Ω, (∀ s', Inv s' → kc s' = some ω) → b x s kc = some ω) (he : ∀ s, Inv s → k s = some ω) : forO xs s b k = some ω :=
  forO_wpN (fun _ => Inv) xs 0 s h0 (fun i s x e h kc hk => hs s x (List.mem_of_getElem? e) h kc hk) he
theorem forO_fold (g : S → α → S) {b : α → S → (S → Option Ω) → Option Ω} {k : S → Option Ω} : ∀ (xs : List α) (s : S), (∀ x ∈ xs, ∀ s kc, b x s kc = kc (g s x)) → forO xs s b k = k (xs.foldl g s)
  | [], s, _ => rfl
  | x :: xs, s, h => (h x (List.mem_cons_self ..) s _).trans (forO_fold g xs (g s x) fun y m => h y (List.mem_cons_of_mem _ m))
/-- two walks that go alike: both end with one answer, or both go on -/
theorem forO_two {Pr : Ω → Prop} {b1 b2 : α → Unit → (Unit → Option Ω) → Option Ω} : ∀ (xs : List α), (∀ x ∈ xs, (∃ r, Pr r ∧ ∀ k1 k2, b1 x () k1 = some r ∧ b2 x () k2 = some r) ∨ (∀ k1 k2, b1 x () k1 = k1 () ∧ b2 x () k2 = k2 ())) →
    (∃ r, Pr r ∧ ∀ k1 k2, forO xs () b1 k1 = some r ∧ forO xs () b2 k2 = some r) ∨ (∀ k1 k2, forO xs () b1 k1 = k1 () ∧ forO xs () b2 k2 = k2 ())
  | [], _ => .inr fun _ _ => ⟨rfl, rfl⟩
  | x :: xs, h => by
    rcases h x (List.mem_cons_self ..) with ⟨r, hr, h1⟩ | h1
    · exact .inl ⟨r, hr, fun k1 k2 => h1 _ _⟩
    · rcases forO_two xs (fun y m => h y (List.mem_cons_of_mem _ m)) with ⟨r, hr, h2⟩ | h2
      · exact .inl ⟨r, hr, fun k1 k2 => ⟨(h1 (fun _ => forO xs () b1 k1) (fun _ => forO xs () b2 k2)).1.trans (h2 k1 k2).1, (h1 (fun _ => forO xs () b1 k1) (fun _ => forO xs () b2 k2)).2.trans (h2 k1 k2).2⟩⟩
      · exact .inr fun k1 k2 => ⟨(h1 (fun _ => forO xs () b1 k1) (fun _ => forO xs () b2 k2)).1.trans (h2 k1 k2).1, (h1 (fun _ => forO xs () b1 k1) (fun _ => forO xs () b2 k2)).2.trans (h2 k1 k2).2⟩
/-- a walk that always goes on -/
theorem forO_skip {b : α → Unit → (Unit → Option Ω) → Option Ω} {k : Unit → Option Ω} : ∀ (xs : List α), (∀ x ∈ xs, ∀ kc, b x () kc = kc ()) → forO xs () b k = k ()
  | [], _ => rfl
  | x :: xs, h => (h x (List.mem_cons_self ..) _).trans (forO_skip xs fun y m => h y (List.mem_cons_of_mem _ m))
/-- a comprehension, by an invariant -/
theorem compO_wp {ω : Ω} (Inv : S → Prop) (Pe : β → Prop) {b : α → S → (Option β → S → Option Ω) → Option Ω} {k : List β → S → Option Ω} : ∀ (xs : List α) (s : S) (acc : List β), Inv s → (∀ y ∈ acc, Pe y) → acc.length + xs.length ≤ SZ →
    (∀ s x, x ∈ xs → Inv s → ∀ kc : Option β → S → Option Ω, (∀ y s', Pe y → Inv s' → kc (some y) s' = some ω) → b x s kc = some ω) → (∀ ys s, ys.length = acc.length + xs.length → (∀ y ∈ ys, Pe y) → Inv s → k ys s = some ω) → compO xs s b acc k = some ω
  | [], s, acc, h0, ha, _, _, he => he acc s rfl ha h0
  | x :: xs, s, acc, h0, ha, hl, hs, he => hs s x (List.mem_cons_self ..) h0 _ fun y s' hy h' => by
    have hl' : acc.length + 1 + xs.length ≤ SZ := by simpa [Nat.add_assoc, Nat.add_comm 1] using hl
    refine ck_wp (decide_eq_true (by omega)) (compO_wp Inv Pe xs s' (acc ++ [y]) h' (fun z m => ?_) (by simpa using hl') (fun s z m => hs s z (List.mem_cons_of_mem _ m)) fun ys s e => he ys s (by simp at e ⊢; omega))
    rcases List.mem_append.1 m with m | m
    · exact ha z m
    · simp at m; subst m; exact hy
/-- .. that maps -/
theorem compO_map (g : α → β) {b : α → S → (Option β → S → Option Ω) → Option Ω} {k : List β → S → Option Ω} (s : S) : ∀ (xs : List α) (acc : List β), acc.length + xs.length ≤ SZ → (∀ x ∈ xs, ∀ kc, b x s kc = kc (some (g x)) s) → compO xs s b acc k = k (acc ++ xs.map g) s
  | [], acc, _, _ => by simp [compO]
  | x :: xs, acc, hl, h => by
    have hl' : acc.length + 1 + xs.length ≤ SZ := by simpa [Nat.add_assoc, Nat.add_comm 1] using hl
    refine (h x (List.mem_cons_self ..) _).trans ?_
    show ck _ _ = _
    rw [decide_eq_true (show acc.length < SZ by omega), ck_true, compO_map g s xs (acc ++ [g x]) (by simpa using hl') fun y m => h y (List.mem_cons_of_mem _ m)]
    simp
/-- .. that sifts and maps -/
theorem compO_filterMap (g : α → Option β) {b : α → S → (Option β → S → Option Ω) → Option Ω} {k : List β → S → Option Ω} (s : S) : ∀ (xs : List α) (acc : List β), acc.length + xs.length ≤ SZ → (∀ x ∈ xs, ∀ kc, b x s kc = kc (g x) s) → compO xs s b acc k = k (acc ++ xs.filterMap g) s
  | [], acc, _, _ => by simp [compO]
  | x :: xs, acc, hl, h => by
    have hl' : acc.length + 1 + xs.length ≤ SZ := by simpa [Nat.add_assoc, Nat.add_comm 1] using hl
    refine (h x (List.mem_cons_self ..) _).trans ?_
    cases e : g x with
    | some y =>
      show ck _ _ = _
      rw [decide_eq_true (show acc.length < SZ by omega), ck_true, compO_filterMap g s xs (acc ++ [y]) (by simpa using hl') fun y m => h y (List.mem_cons_of_mem _ m)]
      simp [e]
    | none =>
      show compO xs s b acc k = _
      rw [compO_filterMap g s xs acc (by omega) fun y m => h y (List.mem_cons_of_mem _ m)]
      simp [e]
end
/-! ### the drawing of the laws -/
def takeM (t0 : TSt) (a_most : Int) : Option (Int × TSt) :=
  ck (modOk (List.length t0.2 : Int)) (let v_at : Int := (Int.fmod t0.1 (List.length t0.2 : Int))
  (atI t0.2 v_at).bind fun y =>
  let v_cell : Int := y
  if (decide ((1000000000000000000 : Int) ≤ v_cell)) = true then (
    ck (divOk a_most) ((ixN (List.length t0.2) v_at).bind fun n =>
    let z : (List Int) := List.set t0.2 n (Int.fdiv v_cell a_most)
    ck (modOk a_most) (some ((Int.fmod v_cell a_most), (t0.1, z)))))
  else (
    let v_n : Int := (t0.1 + (1 : Int))
    ck (mulOk v_cell (48271 : Int)) (ck (mulOk v_n (69621 : Int)) (ck (modOk (2147483647 : Int)) (let v_mixed : Int := (Int.fmod ((v_cell * (48271 : Int)) + (v_n * (69621 : Int))) (2147483647 : Int))
    ck (mulOk v_mixed (16807 : Int)) (ck (mulOk v_n (7919 : Int)) (ck (modOk (1000000007 : Int)) (let v_mixed2 : Int := (Int.fmod ((v_mixed * (16807 : Int)) + (v_n * (7919 : Int))) (1000000007 : Int))
    ck (divOk (7 : Int)) (ck (modOk a_most) (some ((Int.fmod (Int.fdiv v_mixed2 (7 : Int)) a_most), (v_n, t0.2))))))))))))
theorem take_ok {t : TSt} {m : Int} (ht : t.2 ≠ []) (h0 : 0 < m) (h1 : m < 1073741824) : ∃ v t', takeM t m = some (v, t') ∧ 0 ≤ v ∧ v < m ∧ t'.2 ≠ [] := by
  have hl : 0 < t.2.length := List.length_pos_iff.2 ht
  have hl' : (0 : Int) < (t.2.length : Int) := by omega
  have a0 := Int.fmod_nonneg_of_pos t.1 hl'
  have a1 := Int.fmod_lt_of_pos t.1 hl'
  obtain ⟨k, hk, e, ea⟩ := atI_pos (xs := t.2) a0 a1
  unfold takeM
  rw [modOk_pos hl', ck_true]
  show ∃ v t', (atI t.2 (Int.fmod t.1 t.2.length)).bind _ = _ ∧ _
  rw [ea]
  show ∃ v t', (if (decide ((1000000000000000000 : Int) ≤ t.2[k])) = true then _ else _) = _ ∧ _
  by_cases c : (1000000000000000000 : Int) ≤ t.2[k]
  · rw [if_pos (decide_eq_true c), divOk_pos h0 h1, ck_true, e, ixN_nat hk]
    show ∃ v t', ck (modOk m) _ = _ ∧ _
    rw [modOk_pos h0, ck_true]
    refine ⟨_, _, rfl, Int.fmod_nonneg_of_pos _ h0, Int.fmod_lt_of_pos _ h0, fun z => ?_⟩
    exact ht (by simpa using z)
  · rw [if_neg (by simpa using c)]
    show ∃ v t', ck (mulOk _ 48271) (ck (mulOk _ 69621) (ck (modOk 2147483647) (ck (mulOk _ 16807) (ck (mulOk _ 7919) (ck (modOk 1000000007) (ck (divOk 7) (ck (modOk m) (some _)))))))) = _ ∧ _
    rw [mulOk_r (by decide) (by decide), mulOk_r (by decide) (by decide), mulOk_r (by decide) (by decide), mulOk_r (by decide) (by decide), modOk_pos (by decide), modOk_pos (by decide), divOk_pos (by decide) (by decide), modOk_pos h0]
    simp only [ck_true]
    exact ⟨_, _, rfl, Int.fmod_nonneg_of_pos _ h0, Int.fmod_lt_of_pos _ h0, ht⟩
theorem take_wp {Ω : Type} {t : TSt} {m : Int} {k : Int × TSt → Option Ω} {ω : Ω} (ht : t.2 ≠ []) (h0 : 0 < m) (h1 : m < 1073741824) (hk : ∀ v t', 0 ≤ v → v < m → t'.2 ≠ [] → k (v, t') = some ω) : (takeM t m).bind k = some ω := by
  obtain ⟨v, t', e, a, b, c⟩ := take_ok ht h0 h1
  exact bind_wp e (hk v t' a b c)
def stateM (a_script : List Int) : Option TSt :=
  compO (cutL a_script none (some (63 : Int))) () (fun x (t : Unit) kc => (
    kc (some (if x < 0 then -x else x)) ())) [] fun (ys : List Int) (t : Unit) => (
    let v_cells : (List Int) := ys
    let k := fun j : (List Int) => (
      some ((0 : Int), j))
    if (decide ((List.length v_cells : Int) = (0 : Int))) = true then (
      let v_cells2 : (List Int) := [(0 : Int)]
      k v_cells2)
    else (
      k v_cells))
theorem cutL_len {α : Type} (xs : List α) (a b : Option Int) : (cutL xs a b).length ≤ xs.length := by
  unfold cutL
  simp; omega
theorem state_ok {ns : List Int} (h : ns.length ≤ 63) : ∃ t, stateM ns = some t ∧ t.2 ≠ [] := by
  unfold stateM
  rw [compO_map (fun x : Int => if x < 0 then -x else x) () _ [] (by have := cutL_len ns none (some 63); show _ ≤ 16777216; simp; omega) (fun _ _ _ => rfl)]
  show ∃ t, (if decide _ = true then _ else _) = some t ∧ _
  split
  · exact ⟨_, rfl, by simp⟩
  · rename_i c
    exact ⟨_, rfl, fun z => c (decide_eq_true (by rw [show List.length _ = 0 from congrArg List.length z]; rfl))⟩
end Z

set_option Elab.async false
set_option linter.all false
set_option maxRecDepth 100000
namespace Z
open PySem PySem.Spec PyProof.Rows L2

/-! ### a list with parts of their own kinds, that is changed part by part -/
def lsR {τ : Type} (E : Enc τ) : Stor τ where
  rel := fun K F H fp v t => ∃ p vs ds, v = .ref p ∧ H p = some (.lst vs) ∧ E.enc t = .tuple ds ∧ RepAll K F vs ds ∧ fp = [p]
  monoF := fun s h => by
    obtain ⟨p, vs, ds, rfl, hp, e, r, rfl⟩ := h
    exact ⟨p, vs, ds, rfl, hp, e, r.mono s, rfl⟩
  frame := fun f h => by
    obtain ⟨p, vs, ds, rfl, hp, e, r, rfl⟩ := h
    exact ⟨p, vs, ds, rfl, by rw [f p List.mem_cons_self]; exact hp, e, r, rfl⟩
/-- another value at the n-th part -/
structure PartS (E : Enc τ) (n : Int) (E1 : Enc α) (u : τ → α → τ) : Prop where
  is : ∀ x y, ∃ ds j, E.enc x = .tuple ds ∧ ixN ds.length n = some j ∧ E.enc (u x y) = .tuple (ds.set j (E1.enc y))
theorem parts2_0 {A : Enc α} {B : Enc β} : PartS (eT2 A B) 0 A (fun x y => (y, x.2)) := ⟨fun _ _ => ⟨_, _, rfl, rfl, rfl⟩⟩
theorem parts2_1 {A : Enc α} {B : Enc β} : PartS (eT2 A B) 1 B (fun x y => (x.1, y)) := ⟨fun _ _ => ⟨_, _, rfl, rfl, rfl⟩⟩
theorem parts3_0 {γ : Type} {A : Enc α} {B : Enc β} {D : Enc γ} : PartS (eT3 A B D) 0 A (fun x y => (y, x.2)) := ⟨fun _ _ => ⟨_, _, rfl, rfl, rfl⟩⟩
theorem parts3_1 {γ : Type} {A : Enc α} {B : Enc β} {D : Enc γ} : PartS (eT3 A B D) 1 B (fun x y => (x.1, y, x.2.2)) := ⟨fun _ _ => ⟨_, _, rfl, rfl, rfl⟩⟩
theorem parts3_2 {γ : Type} {A : Enc α} {B : Enc β} {D : Enc γ} : PartS (eT3 A B D) 2 D (fun x y => (x.1, x.2.1, y)) := ⟨fun _ _ => ⟨_, _, rfl, rfl, rfl⟩⟩
theorem parts4_0 {γ δ : Type} {A : Enc α} {B : Enc β} {D : Enc γ} {D' : Enc δ} : PartS (eT4 A B D D') 0 A (fun x y => (y, x.2)) := ⟨fun _ _ => ⟨_, _, rfl, rfl, rfl⟩⟩
theorem parts4_1 {γ δ : Type} {A : Enc α} {B : Enc β} {D : Enc γ} {D' : Enc δ} : PartS (eT4 A B D D') 1 B (fun x y => (x.1, y, x.2.2)) := ⟨fun _ _ => ⟨_, _, rfl, rfl, rfl⟩⟩
theorem parts4_2 {γ δ : Type} {A : Enc α} {B : Enc β} {D : Enc γ} {D' : Enc δ} : PartS (eT4 A B D D') 2 D (fun x y => (x.1, x.2.1, y, x.2.2.2)) := ⟨fun _ _ => ⟨_, _, rfl, rfl, rfl⟩⟩
theorem parts4_3 {γ δ : Type} {A : Enc α} {B : Enc β} {D : Enc γ} {D' : Enc δ} : PartS (eT4 A B D D') 3 D' (fun x y => (x.1, x.2.1, x.2.2.1, y)) := ⟨fun _ _ => ⟨_, _, rfl, rfl, rfl⟩⟩
section
variable {X : Cx} {R I Ω : Type} {SR : Stor R} {envR : I → Env} {kr : R → I → Option Ω} {bk ct : Lp Ω} {env : Env} {nm : Str} {pos : Pos} {a b e : Expr} {xs : List Expr} {rest : List Stmt} {P A : Type} {J : Type} {envJ : J → Env} {e' : P → Env} {τ α : Type} {E : Enc τ} {E1 : Enc α}
/-- [a, 0, ..] -/
theorem lx_row {sl : A → Env} {fs : (A → P → Option Ω) → Option Ω} (h : LA X env xs sl e' fs) (E : Enc τ) (g : A → τ) (ds : A → List PyData) (hd : ∀ a, ShL (sl a) (ds a)) (he : ∀ a, E.enc (g a) = .tuple (ds a)) (hz : xs.length ≤ 1000 := by decide) (hz2 : ∀ a, (sl a).length = xs.length := by intro _; rfl) :
    LX X env (.List xs pos) (lsR E) e' (fun k => fs fun a p => k (g a) p) :=
  fun C F H σs es σ k ω Q hK hl hr hk q => tE.of X (pe_lst (paC X)) (h C F H σs es σ _ ω _ hK hl hr hk fun a p vs F' H' hk' hlv h' => by
    refine ⟨?_, fun t nt => ?_⟩
    · have := hz2 a; simp at hlv; exact Nat.le_of_lt (small1000 (by omega))
    · have r := (hd a).rep hlv h'
      exact q (g a) p (.ref t) F' _ hk' ((h'.popN hlv).newOw nt ⟨t, vs, ds a, rfl, upd_same, he a, r, rfl⟩))
/-- row[n] -/
theorem lx_rowAt {w : Option V} {t : τ} {n : Int} {g : τ → α} {p1 cp sp : Pos} {k : Nat} (i : Nat) (hp : Part E n E1 g) (he : env[i]? = some (.st w τ (lsR E) t)) (hi : X.N[i]? = some nm := by rfl) (hv_nm : Vis X.env.scope nm := by first | exact Or.inl rfl | exact Or.inr (Or.inl rfl) | exact Or.inr (Or.inr rfl)) (hd : (nm == ("__debug__" : Str)) = false := by decide) (hcd : (nm == ("__classdict__" : Str)) = false := by decide) :
    LX X env (.Subscript (.Name nm p1) (.Constant (.int n) k cp) sp) (it E1) (fun _ : Unit => env) (fun (k : α → Unit → Option Ω) => k (g t) ()) :=
  fun C F H σs es σ k ω Q hK hl h hk q => tE.of X (pe_ix ix_list (pe_var hi hv_nm hd hcd) pe_int fun _ _ => rfl) (by
    obtain ⟨v, fp, e1, p, vs, ds, rfl, h1, h2, h3, _⟩ := h.lookF hl he
    obtain ⟨ds', q1, q2⟩ := hp.is t
    rw [h2] at q1
    cases q1
    obtain ⟨u, hu, ru⟩ := h3.atD q2
    exact ⟨_, e1, p, vs, n, u, rfl, rfl, SqL.of h1, hu, q (g t) () u F H hk (h.pushSh ru)⟩)
/-- row[n] = e -/
theorem lb_setrow {f : (α → P → Option Ω) → Option Ω} {fr : α → P → (J → Option Ω) → Option Ω} {w : Option V} {t : P → τ} {n : Int} {u : τ → α → τ} {p1 cp sp : Pos} {k : Nat} (i : Nat) (hp : PartS E n E1 u) (he : LX X env e (it E1) e' f) (h1 : ∀ p, (e' p)[i]? = some (.st w τ (lsR E) (t p)))
    (hr : ∀ y p, LB X SR envR kr bk ct ((e' p).set i (.st w τ (lsR E) (u (t p) y))) rest envJ (fr y p)) (hi : X.N[i]? = some nm := by rfl) (hv_nm : Vis X.env.scope nm := by first | exact Or.inl rfl | exact Or.inr (Or.inl rfl) | exact Or.inr (Or.inr rfl)) (hd : (nm == ("__debug__" : Str)) = false := by decide) (hcd : (nm == ("__classdict__" : Str)) = false := by decide)
    (ha : ∀ v, assign (.Subscript (.Name nm p1) (.Constant (.int n) k cp) sp) X.env v = (do
      let ov ← holding [v] (eval (.Name nm p1) X.env)
      let iv ← holding [v, ov] (eval (.Constant (.int n) k cp) X.env)
      standAt sp
      holding [v, ov, iv] (setItem ov iv v)
      release [v, ov, iv] []) := by intro _; rfl)
    (hs : swapsWithSole [.Subscript (.Name nm p1) (.Constant (.int n) k cp) sp] e pos.line X.env = pure false := by rfl) (hw : swappedStores [.Subscript (.Name nm p1) (.Constant (.int n) k cp) sp] e X.env = pure none := by rfl) (ha1 : (assignEach [.Subscript (.Name nm p1) (.Constant (.int n) k cp) sp] X.env).map (·.2) = [assign (.Subscript (.Name nm p1) (.Constant (.int n) k cp) sp) X.env] := by rfl) :
    LB X SR envR kr bk ct env (.Assign [.Subscript (.Name nm p1) (.Constant (.int n) k cp) sp] e pos :: rest) envJ (fun kn => f fun y p => fr y p kn) :=
  fun C F H σs es σ kn ω D hK hl h hk qn qb qc qr => tSs.of X (pss_cons (ps_asg (peC X) (pg_sub (pe_var hi hv_nm hd hcd) pe_int set_list ha) hs hw ha1) (pssC X)) (he C F H σs es σ _ ω _ hK hl h hk fun y p v F' H' hk' h' => by
    have hvy : Rep C.K F' v (E1.enc y) := by
      obtain ⟨v', fp, e1, r⟩ := h'.look (i := 0) rfl
      simp at e1; subst e1
      exact r.2
    obtain ⟨l, fp, e1, r1, nd, ow, fin⟩ := (ER.pop h').mut (i := es.length + i) (by rw [at_app _ rfl]; exact h1 p)
    rw [at_app _ hl] at e1
    obtain ⟨p0, vs, ds, rfl, h2, h3, h4, rfl⟩ := r1
    obtain ⟨ds', j, q1, q2, q3⟩ := hp.is (t p) y
    rw [h3] at q1
    cases q1
    have hj : ixN vs.length n = some j := by rw [h4.length]; exact q2
    refine ⟨_, e1, p0, vs, n, j, rfl, rfl, h2, hj, ?_⟩
    have fin' := fin τ (lsR E) (u (t p) y) (upd H' p0 (.lst (vs.set j v))) [p0] (fun a na _ => upd_ne fun z => na (by rw [z]; simp)) (fun a m => ?_) ⟨p0, _, _, rfl, upd_same, q3, h4.set hvy, rfl⟩ (by simp) (fun a m => ?_)
    · rw [List.set_append_right _ _ (Nat.le_add_right _ _), Nat.add_sub_cancel_left] at fin'
      exact hr y p C F' _ σs es σ kn ω D hK hl fin' hk' qn qb qc qr
    · by_cases z : a = p0
      · subst z; rw [upd_same]; exact fun z => by cases z
      · rw [upd_ne z]; exact m
    · simp at m; subst m
      exact ⟨by rw [upd_same]; exact (fun z => by cases z), .inl (by simp)⟩)
variable {np tp : Pos} {f : (τ → P → Option Ω) → Option Ω}
theorem sqT_ty {K : Fg} {H : Hp} {p : Addr} {vs : List V} (h : SqT K H p vs) : TyX K H (.ref p) (.type "tuple") := by
  rcases h with (h | ⟨o, h⟩) | ⟨o, its, n, h1, h2, _⟩
  · exact .base (.tup h)
  · exact .fTuple h
  · exact .kTuple h1 h2
/-- isinstance(a, tuple) of a tuple -/
theorem lx_isT (hE : ∀ x, ∃ ds, E.enc x = .tuple ds) (hm1 : X.mg "isinstance" = none) (hm2 : X.mg "tuple" = none) (ha : LX X env a (it E) e' f) (hg1 : Gl X "isinstance" := by rfl) (hg2 : Gl X "tuple" := by rfl)
    (hs : starEach [a, .Name "tuple" tp] X.env = (false, eval a X.env) :: starEach [.Name "tuple" tp] X.env := by rfl) (hs2 : starEach [.Name "tuple" tp] X.env = (false, eval (.Name "tuple" tp) X.env) :: starEach [] X.env := by rfl) (hpl : (backTo pos (starEach [.Name "tuple" tp] X.env)).any (·.1) = false := by rfl) :
    LX X env (.Call (.Name "isinstance" np) [a, .Name "tuple" tp] [] pos) (it eB) e' (fun k => f fun _ p => k true p) :=
  fun C F H σs es σ k ω Q hK hl h hk q => tE.of X (pe_callB call_isi hg1 hm1 (by rfl) (pa_cons (peC X) (pa_cons (pe_bltn (v := .ty "tuple") (u := .type "tuple") hg2 hm2 (by rfl) rfl) pa_nil hs2) hs) (by decide) (by decide) hs hpl) (ha C F H σs es σ _ ω _ hK hl h hk fun x p v F' H' hk' h' => by
    obtain ⟨v', fp, e1, _, r⟩ := h'.look (i := 0) rfl
    simp at e1; subst e1
    obtain ⟨ds, e⟩ := hE x
    rw [e] at r
    obtain ⟨t, vs, rfl, h1, h2⟩ := r.tup_inv
    exact ⟨_, _, _, _, true, rfl, .ty "tuple", sqT_ty (by rw [← hK]; exact same_sqT h'.sF h1), by unfold PySem.W.kitOne; rw [if_pos (by decide)], q true p (.bl true) F' H' hk' (h'.pop.pushSh (.bl true))⟩)
/-- len of a tuple of parts -/
theorem lx_lenT {n : Nat} (hE : ∀ x, ∃ ds, E.enc x = .tuple ds ∧ ds.length = n) (hm : X.mg "len" = none) (ha : LX X env a (it E) e' f) (hg : Gl X "len" := by rfl) (he : starEach (a :: []) X.env = (false, eval a X.env) :: starEach [] X.env := by rfl) (hpl : (backTo pos (starEach [] X.env)).any (·.1) = false := by rfl) :
    LX X env (.Call (.Name "len" np) [a] [] pos) (it eI) e' (fun k => f fun _ p => k (n : Int) p) :=
  lx_b1t (G := fun _ => True) (E := eI) (g := fun _ : τ => (n : Int)) call_len_seq hm PySem.boot_len (lo_of ha) (fun _ => trivial) (fun K F H fp v x Q hK s r q => by
    obtain ⟨_, r⟩ := r
    obtain ⟨ds, e, hn⟩ := hE x
    rw [e] at r
    obtain ⟨t, vs, rfl, h1, h2⟩ := r.tup_inv
    have := h2.length
    exact ⟨t, vs, rfl, .inr (by rw [← hK]; exact same_sqT s h1), by rw [this, hn]; exact q _ (.int _)⟩) hg (by decide) (by decide) he hpl
end
end Z

set_option Elab.async false
set_option linter.all false
set_option maxRecDepth 100000
namespace Z
open PySem PySem.Spec PyProof.Rows L2

/-! ### pairs in their order; ranges; walks that gather -/
abbrev lpp : Int × Int → Int × Int → Bool := lt2 ltI ltI
theorem lpp_iff {x y : Int × Int} : lpp x y = true ↔ (x.1 < y.1 ∨ (x.1 = y.1 ∧ x.2 < y.2)) := by
  unfold lpp lt2 ltI
  by_cases c : x.1 = y.1
  · rw [if_pos c, decide_eq_true_eq]; omega
  · rw [if_neg c, decide_eq_true_eq]; omega
theorem lpp_no {x y : Int × Int} : lpp x y = false ↔ ¬(x.1 < y.1 ∨ (x.1 = y.1 ∧ x.2 < y.2)) := by rw [← lpp_iff]; simp
theorem minB_pp {l : List (Int × Int)} {m : Int × Int} (hm : m ∈ l) (h : ∀ y ∈ l, lpp y m = false) : minB lpp l = some m := by
  have key : ∀ (l : List (Int × Int)) (a : Int × Int), (l.foldl (fun a y => if lpp y a = true then y else a) a ∈ a :: l) ∧ ∀ y ∈ a :: l, lpp y (l.foldl (fun a y => if lpp y a = true then y else a) a) = false := by
    intro l
    induction l with
    | nil => intro a; refine ⟨by simp, fun y m => ?_⟩; simp at m; subst m; rw [List.foldl_nil, lpp_no]; omega
    | cons b l ih =>
      intro a
      rw [List.foldl_cons]
      by_cases c : lpp b a = true
      · rw [if_pos c]
        obtain ⟨i1, i2⟩ := ih b
        refine ⟨by rcases List.mem_cons.1 i1 with h | h <;> simp [h], fun y m => ?_⟩
        rcases List.mem_cons.1 m with rfl | m
        · have i3 := i2 b (by simp)
          rw [lpp_no] at i3 ⊢
          rw [lpp_iff] at c
          omega
        · exact i2 y m
      · rw [if_neg c]
        obtain ⟨i1, i2⟩ := ih a
        refine ⟨by rcases List.mem_cons.1 i1 with h | h <;> simp [h], fun y m => ?_⟩
        rcases List.mem_cons.1 m with rfl | m
        · exact i2 _ (by simp)
        · rcases List.mem_cons.1 m with rfl | m
          · have i3 := i2 a (by simp)
            have c' : lpp y a = false := by simpa using c
            rw [lpp_no] at i3 c' ⊢
            omega
          · exact i2 y (by simp [m])
  cases l with
  | nil => cases hm
  | cons a l =>
    obtain ⟨i1, i2⟩ := key l a
    show some _ = some m
    have h1 := h _ i1
    have h2 := i2 m hm
    rw [lpp_no] at h1 h2
    exact congrArg some (Prod.ext (by omega) (by omega))
theorem mem_range2 {lo hi x : Int} : x ∈ rangeL lo hi ↔ lo ≤ x ∧ x < hi := by
  unfold rangeL
  simp only [List.mem_map, List.mem_range]
  exact ⟨fun ⟨i, h, e⟩ => by omega, fun h => ⟨(x - lo).toNat, by omega, by omega⟩⟩
theorem rangeL_len {lo hi : Int} : (rangeL lo hi).length = (hi - lo).toNat := by simp [rangeL]
theorem rangeL_cons {lo hi : Int} (h : lo < hi) : ∃ r, rangeL lo hi = lo :: r := by
  unfold rangeL
  obtain ⟨n, hn⟩ : ∃ n, (hi - lo).toNat = n + 1 := ⟨(hi - lo).toNat - 1, by omega⟩
  rw [hn, List.range_succ_eq_map, List.map_cons]
  exact ⟨_, by simp; rfl⟩
theorem rangeL_snoc {lo hi : Int} (h : lo < hi) : ∃ r, rangeL lo hi = r ++ [hi - 1] := by
  unfold rangeL
  obtain ⟨n, hn⟩ : ∃ n, (hi - lo).toNat = n + 1 := ⟨(hi - lo).toNat - 1, by omega⟩
  rw [hn, List.range_succ, List.map_append]
  refine ⟨_, congrArg _ ?_⟩
  simp; omega
theorem rgOk_small {lo hi : Int} (h1 : -1000000 ≤ lo) (h2 : lo ≤ 1000000) (h3 : -1000000 ≤ hi) (h4 : hi ≤ 1000000) : rgOk lo hi = true := decide_eq_true ⟨by omega, by omega, by omega, by omega⟩
theorem atI_last {α : Type} {l : List α} {a : α} : atI (l ++ [a]) (-(1 : Int)) = some a := by
  unfold atI ixN
  rw [if_neg (by decide), if_pos (by simp; omega)]
  show (l ++ [a])[_]? = _
  have : (-(1 : Int) + ((l ++ [a]).length : Int)).toNat = l.length := by simp; omega
  rw [this]; simp
theorem forO_cat {α β Ω : Type} (f : α → List β) (m N : Nat) {b : α → List β → (List β → Option Ω) → Option Ω} {k : List β → Option Ω} : ∀ (xs : List α) (s : List β), s.length + xs.length * m ≤ N →
    (∀ x ∈ xs, (f x).length ≤ m ∧ ∀ s kc, s.length + m ≤ N → b x s kc = kc (s ++ f x)) → forO xs s b k = k (s ++ xs.flatMap f)
  | [], s, _, _ => by simp [forO]
  | x :: xs, s, hl, h => by
    obtain ⟨h1, h2⟩ := h x (List.mem_cons_self ..)
    rw [List.length_cons, Nat.add_mul, Nat.one_mul] at hl
    refine (h2 s _ (by omega)).trans ?_
    rw [forO_cat f m N xs (s ++ f x) (by rw [List.length_append]; omega) fun y k => h y (List.mem_cons_of_mem _ k), List.flatMap_cons, List.append_assoc]
/-- the cells of a rectangle, column by column -/
def grid (x0 x1 y0 y1 : Int) : List (Int × Int) := (rangeL x0 x1).flatMap fun c => (rangeL y0 y1).map fun r => (c, r)
theorem grid_first {x0 x1 y0 y1 : Int} (hx : x0 < x1) (hy : y0 < y1) : atI (grid x0 x1 y0 y1) 0 = some (x0, y0) := by
  obtain ⟨r, e⟩ := rangeL_cons hx
  obtain ⟨q, e2⟩ := rangeL_cons hy
  unfold grid
  rw [e, e2]
  simp only [List.flatMap_cons, List.map_cons, List.cons_append]
  exact Z.atI_nat (xs := (x0, y0) :: _) (i := 0) (by simp)
theorem grid_last {x0 x1 y0 y1 : Int} (hx : x0 < x1) (hy : y0 < y1) : atI (grid x0 x1 y0 y1) (-(1 : Int)) = some (x1 - 1, y1 - 1) := by
  obtain ⟨r, e⟩ := rangeL_snoc hx
  obtain ⟨q, e2⟩ := rangeL_snoc hy
  unfold grid
  rw [e, e2]
  simp only [List.flatMap_append, List.map_append, List.flatMap_cons, List.flatMap_nil, List.map_cons, List.map_nil, List.append_nil, ← List.append_assoc]
  exact atI_last
end Z

set_option Elab.async false
set_option linter.all false
set_option maxRecDepth 100000
namespace Z
open PySem PySem.Spec PyProof.Rows L2

/-! ### a def that is called where no repr is under way -/
/-- the promise of a def, where no repr is under way -/
structure FnG (P : Program) (w : World) (K : Fg) (mg : Str → Option Value) (base : Heap) (k : Nat) (f : Addr) (fd : FuncData) (ps : List Str) (sp : Sp) : Prop where
  go : ∀ (A : Around) (ou : List PySem.Env) (s : Shared) (H : Hp) (ar : Args) (us : List Value) (vs : List V) (Q : VK) (E : XK), A.guards = some [] → Room k A → Env0 P w K mg base A ou s H → BindsTo s fd ar (ps.zip us) → Vals vs us → sp vs H Q E → codeAny (model P w) A (.call (.ref f) ar) (CR CX0 ou P w H s Q E) s
section
variable {P : Program} {w : World} {K : Fg} {mg : Str → Option Value} {base : Heap}
theorem FnG.weak {k : Nat} {f : Addr} {fd : FuncData} {ps : List Str} {sp sp' : Sp} (G : FnG P w K mg base k f fd ps sp) (h : ∀ vs H Q E, sp' vs H Q E → sp vs H Q E) : FnG P w K mg base k f fd ps sp' :=
  ⟨fun A ou s H ar us vs Q E g hr e hb hv hs => G.go A ou s H ar us vs Q E g hr e hb hv (h _ _ _ _ hs)⟩
theorem fnG0 {x qual : Str} {st : Stmt} {f : Addr} {fd : FuncData} {N ps : List Str} {k : Nat} {sp : Sp} (F : Fun K x qual st f fd) (S : FnScope N ps (defScope st)) (len : ∀ vs H Q E, sp vs H Q E → vs.length = ps.length)
    (hb : ∀ (cdv : Value) (A : Around) (ou : List PySem.Env) (s : Shared) (H : Hp) (vs : List V) (Q : VK) (E : XK), A.guards = some [] → Room k (A.deeper (envOfC qual (defScope st) s.heap.objs.size f cdv)) → sp vs H Q E →
      ∃ t, PSs (cxOf CX0 P w K mg base N qual (defScope st) f cdv A ou s H E).nox (defBody st) t ∧ t { nx := fun _ H' => Q .non H', rt := Q } (L2.start N vs) H) : FnG P w K mg base (k + 1) f fd ps sp := by
  obtain ⟨oc, od, kV, doc, pm, an, cdv, ct, osl, rfl, lk, hcd⟩ := F.ex
  constructor
  intro A ou s H ar us vs Q E hg hr e0 hbd hv hsp
  have hKs : K.In s.heap := e0.mod.kin.keeps fun b o e => (e0.bs b o e).1
  have hnl : s.heap.NoLimit := e0.mod.nolimit.keeps fun b o e => (e0.bs b o e).1
  have kinds : ∀ y ∈ ps.zip us, (defScope st).names.lookup y.1 = some .local ∨ ((defScope st).names.lookup y.1 = some .cell ∧ ((cellsFrom (s.heap.objs.size + 1) (defScope st).names []).lookup y.1).isSome = true) := by
    rintro ⟨nme, va⟩ hy
    cases S.par nme (List.of_mem_zip hy).1 with
    | inl z => exact Or.inl z
    | inr z => exact Or.inr ⟨z, PySem.W.cellsFrom_some _ _ _ (Or.inl z)⟩
  refine codeAny_call_function hr.depth (hKs _ _ lk) rfl S.co S.gen rfl (PySem.W.codeRec_of hKs hcd) (hbd _ _ _ _ ?go)
  refine wpAny_newFunctionEnv_cells S.kind kinds fun en1 hen s1 x1 => ?_
  subst hen
  refine ⟨hnl.keeps x1.toInCall.keep, codeAny_func ?_⟩
  obtain ⟨t, ht, hq⟩ := hb cdv A ou s H vs Q E hg (hr.deeper _) hsp
  have inv : Inv (cxOf CX0 P w K mg base N qual (defScope st) f cdv A ou s H E) [] (L2.start N vs) H s1 := inv_start S hr.hd e0 (len _ _ _ _ hsp) hv x1
  have ht2 := ht.nox
  refine wpAny_mono (ht2.run [] s1 (L2.start N vs) H _ inv hq) (fun fl s2 hs2 => ?_) fun e s2 hs2 => hs2
  cases fl with
  | ret u =>
    obtain ⟨v, σ2, H2, J, rv, q⟩ := hs2
    exact ⟨v, H2, J.os, J.bare, J.base, J.hok, rv, q⟩
  | next =>
    obtain ⟨σ2, H2, J, q⟩ := hs2
    exact ⟨V.non, H2, J.os, J.bare, J.base, J.hok, rfl, q⟩
  | brk => exact False.elim hs2.choose_spec.choose_spec.2
  | cont => exact False.elim hs2.choose_spec.choose_spec.2
/-- .. by its body's derivation -/
theorem fnPG {x qual : Str} {st : Stmt} {f : Addr} {fd : FuncData} {N ps : List Str} {k : Nat} {A R : Type} {sl : A → Env} {SR : Stor R} {m : A → Option R} (F : Fun K x qual st f fd) (S : FnScope N ps (defScope st)) (n : Nat) (hn : N.length - ps.length = n) (hl : ∀ a, (sl a).length = ps.length)
    (hb : ∀ (cdv : Value) (A' : Around) (ou : List PySem.Env) (s : Shared) (H : Hp) (E : XK), (A'.deeper (envOfC qual (defScope st) s.heap.objs.size f cdv)).guards = some [] → Room k (A'.deeper (envOfC qual (defScope st) s.heap.objs.size f cdv)) → ∀ a : A,
      LB (cxOf CX0 P w K mg base N qual (defScope st) f cdv A' ou s H E).nox SR (fun _ : Unit => List.replicate (ps.length + n) .un) (fun (r : R) (_ : Unit) => some r) (noLp R) (noLp R) (sl a ++ List.replicate n .un) (defBody st) (fun z : Empty => z.elim) (fun _ => m a)) :
    FnG P w K mg base (k + 1) f fd ps (spP K sl SR m) := by
  have hlen : ∀ vs H Q E, spP K sl SR m vs H Q E → vs.length = ps.length := fun vs H Q E h => by
    obtain ⟨B, F0, a, r, _, h2, _⟩ := h
    rw [List.length_map] at h2; rw [h2, hl a]
  refine fnG0 F S hlen fun cdv A' ou s H vs Q E hg hr h => ?_
  have hlv := hlen vs H Q E h
  obtain ⟨B, F0, a, r, hm, _, her, q⟩ := h
  refine ⟨_, pssC _, ?_⟩
  have hst : L2.start N vs = vs.map some ++ List.replicate n none := by unfold L2.start; rw [hlv, hn]
  rw [hst]
  refine hb cdv A' ou s H E hg hr a ⟨K, B, F0, H, []⟩ F0 H [] [] _ (fun z => z.elim) r { nx := fun _ H' => Q .non H', rt := Q } rfl rfl (her.padR n) hm (fun z => z.elim) (fun z => z.elim) (fun z => z.elim) ?_
  intro a' i v F' H' σ' e h'
  cases e
  exact q F' H' v h'.head
/-- the call of the law's def from the claim's caller: nothing but the script is held -/
theorem lawG1 {mb : Str → Option Value} {k : Nat} {fa a : Addr} {fd : FuncData} {x : Str} {sp : Sp} {s1 : Shared} {vs : List Value} {H : Hp} (KX : K.In s1.heap) (hns : s1.heap.Ns mainGlobals mg) (hb : s1.heap.Ns builtinsNs mb) (hbb : ∀ y : Str, y ≠ "__name__" → mb y = bootBuiltins y) (hlim : s1.heap.NoLimit) (hg : s1.gens = #[])
    (ha : s1.heap.get? a = some { cls := .type "list", data := .seq vs.toArray }) (hr : Room k callerA) (F : ∀ bs : Heap, K.In bs → bs.Ns mainGlobals mg → FnG P w K mg bs k fa fd [x] sp) (hbind : ∀ (s : Shared) (u : Value), BindsTo s fd ⟨[u], []⟩ [(x, u)])
    (hO : Only H) (hsp : sp [.ref a] H (fun v _ => v = .bl true) fun _ _ _ => False) (hok : HOk P w H s1.heap) (hA : ∀ b, H b ≠ none → b = a) (hK : H a ≠ none → K.lookup a = none) :
    codeAny (model P w) callerA (.call (.ref fa) ⟨[.ref a], []⟩) (fun r s' => r = .ok (.ret (.bool true)) ∧ OldK s1.heap s'.heap ∧ s'.os = s1.os ∧ AllBare s'.gens) s1 := by
  have up : ∀ {c : Addr} {o : Obj}, s1.heap.get? c = some o → H c = none → (hidT s1.heap H).get? c = some o := fun e n => hidT_get e n
  have free : ∀ {c : Addr} {o : Obj} {es : Array DictEntry} {ep : Nat}, s1.heap.get? c = some o → o.data = .dict es ep → H c = none := by
    intro c o es ep e d
    rcases q : H c with _ | u
    · rfl
    · have hc : c = a := hA c (by rw [q]; exact fun z => by cases z)
      rw [hc, ha] at e
      cases e
      cases (show Data.seq vs.toArray _ = Data.dict es ep from d)
  have nsUp : ∀ {c : Addr} {m : Str → Option Value}, s1.heap.Ns c m → (hidT s1.heap H).Ns c m := fun ⟨o, es, ep, e, d, r⟩ => ⟨o, es, ep, up e (free e d), d, r⟩
  have inUp : K.In (hidT s1.heap H) := by
    intro c o e
    refine up (KX c o e) ?_
    rcases q : H c with _ | u
    · rfl
    · have hc : c = a := hA c (by rw [q]; exact fun z => by cases z)
      subst hc
      have := hK (by rw [q]; exact fun z => by cases z)
      rw [this] at e; cases e
  have md : Mod K mg (hidT s1.heap H) := ⟨inUp, nsUp hns, ⟨mb, nsUp hb, hbb⟩, by obtain ⟨mc, h1, h2⟩ := hlim; exact ⟨mc, nsUp h1, h2⟩⟩
  have ev : Env0 P w K mg (hidT s1.heap H) callerA [] s1 H := by
    refine ⟨rfl, md, fun c o e => of_hidT e, Nat.le_of_eq (hidT_size _ _), trivial, fun c hc => ?_, hok, .of_eq hg⟩
    cases (show c ∈ ([] : List Addr) from hc)
  have run := (F _ inUp (nsUp hns)).go callerA [] s1 H ⟨[.ref a], []⟩ [.ref a] [.ref a] _ _ rfl hr ev (hbind s1 (.ref a)) (.cons rfl .nil) hsp
  refine codeAny_mono run fun r s' h => ?_
  match r, h with
  | .error e, h => exact False.elim h
  | .ok .next, h => exact False.elim h
  | .ok .brk, h => exact False.elim h
  | .ok .cont, h => exact False.elim h
  | .ok (.ret u), h =>
    obtain ⟨v, H2, os, bare, un, hok2, rv, q⟩ := h
    have hv : v = .bl true := q
    rw [hv] at rv
    have hu : u = Value.bool true := rv
    refine ⟨by rw [hu], OldK.of_keep fun c o e => ?_, os, bare⟩
    rcases q2 : H c with _ | g
    · exact un.keep c o e q2 (fun z => by cases (show c ∈ ([] : List Addr) from z)) (by simp)
    · rcases hO c with z | ⟨ob, xs, z⟩
      · rw [q2] at z; cases z
      · have e1 := (hok c _ z).1
        have e2 := (hok2 c _ (un.frzs c ob _ z)).1
        rw [e] at e1; cases e1
        exact e2
theorem lawG {mb : Str → Option Value} {k : Nat} {fa a : Addr} {fd : FuncData} {x : Str} {sp : Sp} {s1 : Shared} {vs : List Value} {ns : List Int} (KX : K.In s1.heap) (hns : s1.heap.Ns mainGlobals mg) (hb : s1.heap.Ns builtinsNs mb) (hbb : ∀ y : Str, y ≠ "__name__" → mb y = bootBuiltins y) (hlim : s1.heap.NoLimit) (hg : s1.gens = #[])
    (ha : s1.heap.get? a = some { cls := .type "list", data := .seq vs.toArray }) (hi : IntsAre vs ns) (hl : ns.length ≤ sizeLine) (hr : Room k callerA) (F : ∀ bs : Heap, K.In bs → bs.Ns mainGlobals mg → FnG P w K mg bs k fa fd [x] sp) (hbind : ∀ (s : Shared) (u : Value), BindsTo s fd ⟨[u], []⟩ [(x, u)])
    (hsp : ∀ H : Hp, Only H → SqL K H a (ns.map V.int) → sp [.ref a] H (fun v _ => v = .bl true) fun _ _ _ => False) :
    codeAny (model P w) callerA (.call (.ref fa) ⟨[.ref a], []⟩) (fun r s' => r = .ok (.ret (.bool true)) ∧ OldK s1.heap s'.heap ∧ s'.os = s1.os ∧ AllBare s'.gens) s1 := by
  have rv := vals_ints hi
  have hlen := hi.length
  rcases hk : K.lookup a with _ | o
  · have hO : Only (fun c => if c = a then some (.frz { cls := .type "list", data := .seq vs.toArray } (.lst (ns.map V.int))) else none) := fun c => by
      by_cases z : c = a
      · exact .inr ⟨_, _, if_pos z⟩
      · exact .inl (if_neg z)
    refine lawG1 KX hns hb hbb hlim hg ha hr F hbind hO (hsp _ hO (.inl (.inr ⟨_, if_pos rfl⟩))) (fun c u z => ?_) (fun c z => ?_) (fun _ => hk)
    · by_cases q : c = a
      · rw [if_pos q] at z
        cases z
        rw [q]
        exact ⟨ha, by rw [List.length_map]; exact hl, vs, _, rv, ha⟩
      · rw [if_neg q] at z; cases z
    · by_cases q : c = a
      · exact q
      · exact absurd (if_neg q) z
  · have e := KX a o hk
    rw [ha] at e
    cases e
    refine lawG1 (H := fun _ => none) KX hns hb hbb hlim hg ha hr F hbind (fun _ => .inl rfl) (hsp _ (fun _ => .inl rfl) (.inr ⟨_, vs.toArray, _, hk, rfl, rfl, rfl, by rw [List.size_toArray, hlen]; exact hl, by simpa using rv⟩)) (fun c u z => by cases (show (none : Option HO) = some u from z)) (fun c z => absurd rfl z) (fun z => absurd rfl z)
end
theorem walkG {l : PySem.W.OpenLaw} {n k : Nat} {q : Program} {loose : List Str} {XP : (Str → Option Value) → Heap → Prop} {YP : World → Heap → Prop} {d : DefRec} {K : Params → Fg} {sp : World → Sp} {x : Str} (hn : l.most = some n) (hn2 : n ≤ sizeLine) (hdf : d.params.defaults = []) (hr : Room k callerA) (hY : ∀ (w : World) (h : Heap), YP w h → (K w.params).In h)
    (F : ∀ (w : World) (mg : Str → Option Value) (fa : Addr) (h : Heap), (K w.params).In h → h.Ns mainGlobals mg → mg d.name = some (.ref fa) → ∃ fd : FuncData, (∀ (s : Shared) (u : Value), BindsTo s fd ⟨[u], []⟩ [(x, u)]) ∧ ∀ bs : Heap, (K w.params).In bs → bs.Ns mainGlobals mg → FnG l.prog w (K w.params) mg bs k fa fd [x] (sp w))
    (hsp : ∀ (w : World) (H : Hp) (a : Addr) (ns : List Int), ns.length ≤ n → Only H → SqL (K w.params) H a (ns.map V.int) → sp w [.ref a] H (fun v _ => v = .bl true) fun _ _ _ => False) :
    PySem.W.WalkO q loose XP YP l.row.toRowW d [] (fun f vs => PySem.call f vs) := by
  refine Att.attach_call hn hdf fun w s0 s1 mg mb fa o pm cd doc a vs ns G Y ho hd hcd hmg hobj hints hlen hg => ?_
  obtain ⟨fd, hbd, hF⟩ := F w mg fa _ (hY w _ Y) G.T.g hmg
  exact lawG (hY w _ Y) G.T.g G.T.b G.T.builtins G.T.nolimit hg hobj hints (Nat.le_trans hlen hn2) hr hF hbd fun H hO hS => hsp w H a ns hlen hO hS
end Z

set_option Elab.async false
set_option linter.all false
set_option maxRecDepth 100000
namespace Z
open PySem PySem.Spec PyProof.Rows L2

/-! ### repr of data -/
def showOk (d : PyData) : Bool := d.canLay0 && d.showable && decide (d.depth ≤ 60) && decide (d.shown.length ≤ sizeLine)
/-- the text of a datum, where it can be told -/
def reprO (d : PyData) : Option Str := if showOk d = true then some d.shown else none
def rRepr (K : Fg) : List V → Hp → VK → Prop := fun vs H Q => ∃ (v : V) (d : PyData), vs = [v] ∧ Dp K H v d ∧ showOk d = true ∧ Q (.str d.shown) H
theorem cr_repr {X : Cx} (hg : X.A.guards = some []) (hu : X.A.units + 64 < cLine) : CallR X (.builtin "repr") (rRepr X.K) := by
  intro pins s σ H vs us Q I r h
  obtain ⟨v, d, rfl, hd, hs, q⟩ := h
  simp only [showOk, Bool.and_eq_true, decide_eq_true_eq] at hs
  obtain ⟨⟨⟨s1, s2⟩, s3⟩, s4⟩ := hs
  obtain ⟨u, rfl, rv⟩ := vals1 r
  obtain ⟨as, hr⟩ := Dp.reads I d v u hd rv
  have nodict : d.hasDict = true → sysModules ∉ as := PyData.noDict_hsm (PyData.hasDict_of_canLay d s1)
  cases hd with
  | non =>
    have e : u = .none := rv
    subst e
    exact PySem.P.repr_of_none ⟨.str _, H, I.tok _, ⟨_, by rw [PyData.shown]⟩, q⟩
  | bl b =>
    have e : u = .bool b := rv
    subst e
    exact PySem.P.repr_of_bool ⟨.str _, H, I.tok _, ⟨_, by rw [PyData.shown]⟩, q⟩
  | int i =>
    obtain ⟨t, rfl⟩ := rv
    exact PySem.P.repr_of_int (by simpa [PyData.showable] using s2) ⟨.str _, H, I.tok _, ⟨_, by rw [PyData.shown]⟩, q⟩
  | str x =>
    obtain ⟨t, rfl⟩ := rv
    exact PySem.P.repr_of_str ⟨.str _, H, I.tok _, ⟨_, by rw [PyData.shown]⟩, q⟩ (by rw [PyData.shown] at s4; exact s4)
  | lst h1 h2 =>
    have e := (show u = Value.ref _ from rv)
    subst e
    exact PySem.repr_of_reads' hr s2 nodict hg (by omega) (fun b o e => e) (fun h' u tk hk => ⟨.str _, H, I.kept hk, ⟨u, rfl⟩, q⟩) s4
  | tup h1 h2 =>
    have e := (show u = Value.ref _ from rv)
    subst e
    exact PySem.repr_of_reads' hr s2 nodict hg (by omega) (fun b o e => e) (fun h' u tk hk => ⟨.str _, H, I.kept hk, ⟨u, rfl⟩, q⟩) s4
section
variable {X : Cx} {Ω : Type} {env : Env} {pos np : Pos} {a : Expr} {P τ : Type} {S : Stor τ} {E : Enc τ} {e' : P → Env} {G : Env → Prop} {f : (τ → P → Option Ω) → Option Ω}
theorem lx_repr (hgd : X.A.guards = some []) (hu : X.A.units + 64 < cLine) (dv : Dv S E) (hm : X.mg "repr" = none) (ha : LO X G env a S e' f) (hG : ∀ p, G (e' p)) (hg : Gl X "repr" := by rfl) (he : starEach (a :: []) X.env = (false, eval a X.env) :: starEach [] X.env := by rfl) (hpl : (backTo pos (starEach [] X.env)).any (·.1) = false := by rfl) :
    LX X env (.Call (.Name "repr" np) [a] [] pos) (it eS) e' (fun k => f fun x p => (reprO (E.enc x)).bind fun y => k y p) :=
  lx_b1 (E := eS) (g := fun x : τ => reprO (E.enc x)) (cr_repr hgd hu) hm PyProof.Rows.boot_repr ha hG (fun K F H fp v x y Q hK s hy r q => by
    unfold reprO at hy
    by_cases c : showOk (E.enc x) = true
    · rw [if_pos c] at hy
      cases hy
      have hl : (E.enc x).canLay0 = true := by
        simp only [showOk, Bool.and_eq_true, decide_eq_true_eq] at c
        exact c.1.1.1
      exact ⟨v, E.enc x, rfl, by rw [← hK]; exact dv.dp s hl r, c, q _ (.str _)⟩
    · rw [if_neg c] at hy; cases hy) hg (by decide) (by decide) he hpl
end
section
variable {X : Cx} {Ω : Type} {env : Env} {pos : Pos} {a b : Expr} {P1 P2 : Type} {e1 : P1 → Env} {e2 : P1 → P2 → Env} {fa : (Str → P1 → Option Ω) → Option Ω} {fb : P1 → (Str → P2 → Option Ω) → Option Ω}
theorem lc_txt {op : CmpOp} {r : R2} {g : Str → Str → Bool} (ho : OpR X (compareOp op) r) (hr : ∀ i j H (Q : VK), Q (.bl (g i j)) H → r (.str i) (.str j) H Q) (ha : LX X env a (it eS) e1 fa) (hb : ∀ p1, LX X (e1 p1) b (it eS) (e2 p1) (fb p1)) :
    LC X env op a b (fun p : P1 × P2 => e2 p.1 p.2) (fun k => fa fun x p1 => fb p1 fun y p2 => k (g x y) (p1, p2)) :=
  lc_cmp ho (lo_of ha) (fun p1 => lo_of (hb p1)) (fun _ _ => trivial) (fun _ _ => trivial) fun K F H fp fq v u x y Q _ _ r1 r2 q => by
    obtain ⟨_, r1⟩ := r1
    obtain ⟨_, r2⟩ := r2
    cases r1; cases r2
    exact hr x y H Q q
theorem lc_eqS (ha : LX X env a (it eS) e1 fa) (hb : ∀ p1, LX X (e1 p1) b (it eS) (e2 p1) (fb p1)) : LC X env .Eq a b (fun p : P1 × P2 => e2 p.1 p.2) (fun k => fa fun x p1 => fb p1 fun y p2 => k (decide (x = y)) (p1, p2)) :=
  lc_txt op_eq (fun i j _ _ q => ⟨rfl, by simpa using q⟩) ha hb
theorem lc_neS (ha : LX X env a (it eS) e1 fa) (hb : ∀ p1, LX X (e1 p1) b (it eS) (e2 p1) (fb p1)) : LC X env .NotEq a b (fun p : P1 × P2 => e2 p.1 p.2) (fun k => fa fun x p1 => fb p1 fun y p2 => k (!decide (x = y)) (p1, p2)) :=
  lc_txt op_ne (fun i j _ _ q => ⟨rfl, by simpa using q⟩) ha hb
end
/-! ### in -/
def inB {τ : Type} [DecidableEq τ] (x : τ) (ys : List τ) : Bool := ys.any fun z => decide (z = x)
theorem inB_iff {τ : Type} [DecidableEq τ] {x : τ} {ys : List τ} : inB x ys = true ↔ x ∈ ys := by
  unfold inB
  rw [List.any_eq_true]
  exact ⟨fun ⟨z, hz, e⟩ => by rw [← of_decide_eq_true e]; exact hz, fun h => ⟨x, h, decide_eq_true rfl⟩⟩
section
variable {X : Cx} {Ω : Type} {env : Env} {a b : Expr} {P1 P2 τ1 : Type} {S1 : Stor τ1} {E1 : Enc τ1} {e1 : P1 → Env} {e2 : P1 → P2 → Env} {G1 : Env → Prop} {G2 : P1 → Env → Prop} {fa : (τ1 → P1 → Option Ω) → Option Ω}
theorem any_in [DecidableEq τ1] (ev : Ev E1) (x : τ1) (ys : List τ1) : ((ys.map E1.enc).any fun z => PyData.eqv z (E1.enc x)) = inB x ys := by
  rw [Bool.eq_iff_iff, inB_iff, List.any_eq_true]
  constructor
  · rintro ⟨z, hz, e⟩
    obtain ⟨y, hy, rfl⟩ := List.mem_map.1 hz
    rw [ev.eq, decide_eq_true_eq] at e
    rw [← e]; exact hy
  · intro h
    exact ⟨_, List.mem_map.2 ⟨x, h, rfl⟩, by rw [ev.eq]; exact decide_eq_true rfl⟩
theorem lc_inT [DecidableEq τ1] {S2 : Stor (List τ1)} {fb : P1 → (List τ1 → P2 → Option Ω) → Option Ω} {n : Nat} (hu : X.A.units + 65 < cLine) (d1 : Dv S1 E1) (d2 : Dv S2 (eL E1)) (t : Dt E1 n) (ev : Ev E1) (ha : LO X G1 env a S1 e1 fa) (hb : ∀ p1, LO X (G2 p1) (e1 p1) b S2 (e2 p1) (fb p1)) (g1 : ∀ p1 p2, G1 (e2 p1 p2)) (g2 : ∀ p1 p2, G2 p1 (e2 p1 p2)) (hn : n + 1 ≤ 64 := by decide) :
    LC X env .In a b (fun p : P1 × P2 => e2 p.1 p.2) (fun k => fa fun x p1 => fb p1 fun y p2 => k (inB x y) (p1, p2)) :=
  lc_cmp (op_inD hu) ha hb g1 g2 fun K F H fp fq v u x y Q hK s r1 r2 q => by
    subst hK
    exact ⟨_, _, d1.dp s (t.lay x) r1, d2.dp s ((dtL t).lay y) r2, shaped_of (t.lay x) (Nat.le_trans (t.dep x) (by omega)), shaped_of ((dtL t).lay y) (Nat.le_trans ((dtL t).dep y) hn), by rw [any_in ev]; exact q⟩
theorem lc_notInT [DecidableEq τ1] {S2 : Stor (List τ1)} {fb : P1 → (List τ1 → P2 → Option Ω) → Option Ω} {n : Nat} (hu : X.A.units + 65 < cLine) (d1 : Dv S1 E1) (d2 : Dv S2 (eL E1)) (t : Dt E1 n) (ev : Ev E1) (ha : LO X G1 env a S1 e1 fa) (hb : ∀ p1, LO X (G2 p1) (e1 p1) b S2 (e2 p1) (fb p1)) (g1 : ∀ p1 p2, G1 (e2 p1 p2)) (g2 : ∀ p1 p2, G2 p1 (e2 p1 p2)) (hn : n + 1 ≤ 64 := by decide) :
    LC X env .NotIn a b (fun p : P1 × P2 => e2 p.1 p.2) (fun k => fa fun x p1 => fb p1 fun y p2 => k (!inB x y) (p1, p2)) :=
  lc_cmp (op_notInD hu) ha hb g1 g2 fun K F H fp fq v u x y Q hK s r1 r2 q => by
    subst hK
    exact ⟨_, _, d1.dp s (t.lay x) r1, d2.dp s ((dtL t).lay y) r2, shaped_of (t.lay x) (Nat.le_trans (t.dep x) (by omega)), shaped_of ((dtL t).lay y) (Nat.le_trans ((dtL t).dep y) hn), by rw [any_in ev]; exact q⟩
end
end Z

set_option Elab.async false
set_option linter.all false
set_option maxRecDepth 100000
namespace Z
open PySem PySem.Spec PyProof.Rows L2

/-! ### spans (y, first, last) in plain words -/
abbrev Sp3 := Int × Int × Int
/-- x, y lies in a span -/
def InS (R : List Sp3) (x y : Int) : Prop := ∃ s ∈ R, s.1 = y ∧ s.2.1 ≤ x ∧ x ≤ s.2.2
/-- in order, with gaps -/
def Can (R : List Sp3) : Prop := (∀ s ∈ R, s.2.1 ≤ s.2.2) ∧ R.Pairwise fun s t => s.1 < t.1 ∨ (s.1 = t.1 ∧ s.2.2 + 1 < t.2.1)
theorem InS.nil {x y : Int} : ¬ InS [] x y := fun ⟨_, m, _⟩ => nomatch m
theorem InS.cons {s : Sp3} {R : List Sp3} {x y : Int} : InS (s :: R) x y ↔ (s.1 = y ∧ s.2.1 ≤ x ∧ x ≤ s.2.2) ∨ InS R x y := by
  constructor
  · rintro ⟨t, m, h⟩
    rcases List.mem_cons.1 m with rfl | m
    · exact .inl h
    · exact .inr ⟨t, m, h⟩
  · rintro (h | ⟨t, m, h⟩)
    · exact ⟨s, List.mem_cons_self .., h⟩
    · exact ⟨t, List.mem_cons_of_mem _ m, h⟩
theorem InS.app {R S : List Sp3} {x y : Int} : InS (R ++ S) x y ↔ InS R x y ∨ InS S x y := by
  constructor
  · rintro ⟨t, m, h⟩
    rcases List.mem_append.1 m with m | m
    · exact .inl ⟨t, m, h⟩
    · exact .inr ⟨t, m, h⟩
  · rintro (⟨t, m, h⟩ | ⟨t, m, h⟩)
    · exact ⟨t, List.mem_append_left _ m, h⟩
    · exact ⟨t, List.mem_append_right _ m, h⟩
theorem Can.tail {s : Sp3} {R : List Sp3} (h : Can (s :: R)) : Can R := ⟨fun t m => h.1 t (List.mem_cons_of_mem _ m), (List.pairwise_cons.1 h.2).2⟩
theorem Can.out {s : Sp3} {R : List Sp3} {x : Int} (h : Can (s :: R)) : InS R x s.1 → s.2.2 + 1 < x := by
  rintro ⟨t, m, e, a, b⟩
  rcases (List.pairwise_cons.1 h.2).1 t m with q | ⟨_, q⟩
  · omega
  · omega
theorem Can.head {s : Sp3} {R : List Sp3} {x y : Int} (h : Can (s :: R)) : InS (s :: R) x y → s.1 < y ∨ (s.1 = y ∧ s.2.1 ≤ x) := by
  rintro ⟨t, m, e, a, b⟩
  rcases List.mem_cons.1 m with rfl | m
  · exact .inr ⟨e, a⟩
  · have v := h.1 s (List.mem_cons_self ..)
    rcases (List.pairwise_cons.1 h.2).1 t m with q | ⟨q1, q⟩
    · exact .inl (by omega)
    · exact .inr ⟨by omega, by omega⟩
/-- one normal form for one set of cells -/
theorem Can.uniq : ∀ {R S : List Sp3}, Can R → Can S → (∀ x y, InS R x y ↔ InS S x y) → R = S
  | [], [], _, _, _ => rfl
  | [], t :: S, _, hS, h => absurd ((h t.2.1 t.1).2 ⟨t, List.mem_cons_self .., rfl, Int.le_refl _, hS.1 t (List.mem_cons_self ..)⟩) InS.nil
  | s :: R, [], hR, _, h => absurd ((h s.2.1 s.1).1 ⟨s, List.mem_cons_self .., rfl, Int.le_refl _, hR.1 s (List.mem_cons_self ..)⟩) InS.nil
  | s :: R, t :: S, hR, hS, h => by
    have vs := hR.1 s (List.mem_cons_self ..)
    have vt := hS.1 t (List.mem_cons_self ..)
    have a1 := hS.head ((h s.2.1 s.1).1 ⟨s, List.mem_cons_self .., rfl, Int.le_refl _, vs⟩)
    have a2 := hR.head ((h t.2.1 t.1).2 ⟨t, List.mem_cons_self .., rfl, Int.le_refl _, vt⟩)
    have e1 : s.1 = t.1 := by omega
    have e2 : s.2.1 = t.2.1 := by omega
    have e3 : s.2.2 = t.2.2 := by
      rcases Int.lt_trichotomy s.2.2 t.2.2 with q | q | q
      · have := (h (s.2.2 + 1) s.1).2 ⟨t, List.mem_cons_self .., e1.symm, by omega, by omega⟩
        rcases InS.cons.1 this with z | z
        · omega
        · have := hR.out z; omega
      · exact q
      · have := (h (t.2.2 + 1) t.1).1 ⟨s, List.mem_cons_self .., e1, by omega, by omega⟩
        rcases InS.cons.1 this with z | z
        · omega
        · have := hS.out z; omega
    have est : s = t := Prod.ext e1 (Prod.ext e2 e3)
    subst est
    rw [Can.uniq hR.tail hS.tail fun x y => ?_]
    have hh := h x y
    rw [InS.cons, InS.cons] at hh
    constructor
    · intro z
      rcases hh.1 (.inr z) with q | q
      · have := hR.out (x := x) (by rw [q.1]; exact z); omega
      · exact q
    · intro z
      rcases hh.2 (.inr z) with q | q
      · have := hS.out (x := x) (by rw [q.1]; exact z); omega
      · exact q
/-- one span more, behind all others in order of (y, first) -/
def stepJ (R : List Sp3) (s : Sp3) : List Sp3 := match R.getLast? with
  | some l => if l.1 = s.1 ∧ s.2.1 ≤ l.2.2 + 1 then R.dropLast ++ [(s.1, l.2.1, max l.2.2 s.2.2)] else R ++ [(s.1, s.2.1, s.2.2)]
  | none => R ++ [(s.1, s.2.1, s.2.2)]
/-- all of R begins at or ahead of (y, x) -/
def Ahead (R : List Sp3) (y x : Int) : Prop := ∀ t ∈ R, t.1 < y ∨ (t.1 = y ∧ t.2.1 ≤ x)
theorem stepJ_ok {R : List Sp3} {s : Sp3} (h : Can R) (v : s.2.1 ≤ s.2.2) (ha : Ahead R s.1 s.2.1) :
    Can (stepJ R s) ∧ (∀ x y, InS (stepJ R s) x y ↔ InS R x y ∨ (s.1 = y ∧ s.2.1 ≤ x ∧ x ≤ s.2.2)) ∧ Ahead (stepJ R s) s.1 s.2.1 ∧ (stepJ R s).length ≤ R.length + 1 := by
  have fresh : (∀ l, R.getLast? = some l → ¬ (l.1 = s.1 ∧ s.2.1 ≤ l.2.2 + 1)) → Can (R ++ [s]) ∧ (∀ x y, InS (R ++ [s]) x y ↔ InS R x y ∨ (s.1 = y ∧ s.2.1 ≤ x ∧ x ≤ s.2.2)) ∧ Ahead (R ++ [s]) s.1 s.2.1 ∧ (R ++ [s]).length ≤ R.length + 1 := fun hl => by
    refine ⟨⟨fun t m => ?_, List.pairwise_append.2 ⟨h.2, List.pairwise_singleton .., fun t m u mu => ?_⟩⟩, fun x y => ?_, fun t m => ?_, by simp⟩
    · rcases List.mem_append.1 m with m | m
      · exact h.1 t m
      · rw [List.mem_singleton] at m; subst m; exact v
    · rw [List.mem_singleton] at mu; subst mu
      rcases ha t m with q | ⟨q1, q2⟩
      · exact .inl q
      · refine .inr ⟨q1, ?_⟩
        -- t is no later than the last
        rcases List.eq_nil_or_concat R with e | ⟨R', l, e⟩
        · subst e; cases m
        · subst e
          have nl := hl l (by simp)
          rw [List.concat_eq_append] at m h
          rcases List.mem_append.1 m with m | m
          · have o := (List.pairwise_append.1 h.2).2.2 t m l (by simp)
            have vl := h.1 l (by simp)
            have al := ha l (by simp)
            omega
          · rw [List.mem_singleton] at m; subst m
            omega
    · rw [InS.app, InS.cons]
      constructor
      · rintro (q | q | q)
        · exact .inl q
        · exact .inr q
        · exact absurd q InS.nil
      · rintro (q | q)
        · exact .inl q
        · exact .inr (.inl q)
    · rcases List.mem_append.1 m with m | m
      · exact ha t m
      · rw [List.mem_singleton] at m; subst m; exact .inr ⟨rfl, Int.le_refl _⟩
  unfold stepJ
  rcases List.eq_nil_or_concat R with e | ⟨R', l, e⟩
  · subst e
    exact fresh fun l z => by simp at z
  · subst e
    rw [List.concat_eq_append] at h ha fresh ⊢
    rw [show (R' ++ [l]).getLast? = some l by simp]
    dsimp only
    by_cases c : l.1 = s.1 ∧ s.2.1 ≤ l.2.2 + 1
    · rw [if_pos c, show (R' ++ [l]).dropLast = R' by simp]
      have vl := h.1 l (by simp)
      have al := ha l (by simp)
      have pw := List.pairwise_append.1 h.2
      refine ⟨⟨fun t m => ?_, List.pairwise_append.2 ⟨pw.1, List.pairwise_singleton .., fun t m u mu => ?_⟩⟩, fun x y => ?_, fun t m => ?_, by simp⟩
      · rcases List.mem_append.1 m with m | m
        · exact h.1 t (by simp [m])
        · rw [List.mem_singleton] at m; subst m; dsimp only; omega
      · rw [List.mem_singleton] at mu; subst mu
        have := pw.2.2 t m l (by simp)
        dsimp only; omega
      · rw [InS.app, InS.app, InS.cons, InS.cons]
        dsimp only
        constructor
        · rintro (q | q | q)
          · exact .inl (.inl q)
          · by_cases z : x ≤ l.2.2
            · exact .inl (.inr (.inl (by omega)))
            · exact .inr (by omega)
          · exact absurd q InS.nil
        · rintro ((q | q | q) | q)
          · exact .inl q
          · exact .inr (.inl (by omega))
          · exact absurd q InS.nil
          · exact .inr (.inl (by omega))
      · rcases List.mem_append.1 m with m | m
        · exact ha t (by simp [m])
        · rw [List.mem_singleton] at m; subst m; exact .inr ⟨rfl, by dsimp only; omega⟩
    · rw [if_neg c]
      exact fresh fun l' z => by simp at z; subst z; exact c
/-- a row of spans in order of (y, first): all of them, in normal form -/
theorem foldJ_ok : ∀ (L R : List Sp3), Can R → (∀ s ∈ L, s.2.1 ≤ s.2.2) → (∀ s ∈ L, Ahead R s.1 s.2.1) → L.Pairwise (fun s t => s.1 < t.1 ∨ (s.1 = t.1 ∧ s.2.1 ≤ t.2.1)) →
    Can (L.foldl stepJ R) ∧ (∀ x y, InS (L.foldl stepJ R) x y ↔ InS R x y ∨ InS L x y) ∧ (L.foldl stepJ R).length ≤ R.length + L.length
  | [], R, h, _, _, _ => ⟨h, fun x y => ⟨.inl, fun z => z.elim id fun q => absurd q InS.nil⟩, by simp⟩
  | s :: L, R, h, hv, ha, hp => by
    obtain ⟨p1, p2⟩ := List.pairwise_cons.1 hp
    obtain ⟨s1, s2, s3, s4⟩ := stepJ_ok h (hv s (List.mem_cons_self ..)) (ha s (List.mem_cons_self ..))
    obtain ⟨i1, i2, i3⟩ := foldJ_ok L (stepJ R s) s1 (fun t m => hv t (List.mem_cons_of_mem _ m)) (fun t m u mu => by
      have a := s3 u mu
      have b := p1 t m
      omega) p2
    refine ⟨i1, fun x y => ?_, by rw [List.length_cons]; show (L.foldl stepJ (stepJ R s)).length ≤ _; omega⟩
    show InS (L.foldl stepJ (stepJ R s)) x y ↔ _
    rw [i2, s2, InS.cons]
    constructor
    · rintro ((q | q) | q)
      · exact .inl q
      · exact .inr (.inl q)
      · exact .inr (.inr q)
    · rintro (q | q | q)
      · exact .inl (.inl q)
      · exact .inl (.inr q)
      · exact .inr q
end Z

set_option Elab.async false
set_option linter.all false
set_option maxRecDepth 100000
namespace Z
open PySem PySem.Spec PyProof.Rows L2

/-! ### sorting of pairs and triples; walks that grow -/
theorem forO_grow {α β Ω : Type} (g : List β → α → List β) (N : Nat) (hg : ∀ s x, (g s x).length ≤ s.length + 1) {b : α → List β → (List β → Option Ω) → Option Ω} {k : List β → Option Ω} : ∀ (xs : List α) (s : List β), s.length + xs.length ≤ N →
    (∀ x ∈ xs, ∀ s kc, s.length + 1 ≤ N → b x s kc = kc (g s x)) → forO xs s b k = k (xs.foldl g s)
  | [], s, _, _ => rfl
  | x :: xs, s, hl, h => by
    rw [List.length_cons] at hl
    refine (h x (List.mem_cons_self ..) s _ (by omega)).trans ?_
    have := hg s x
    exact forO_grow g N hg xs (g s x) (by omega) fun y m => h y (List.mem_cons_of_mem _ m)
theorem lt3_no {x y : Sp3} : lt3 ltI ltI ltI x y = false ↔ ¬(x.1 < y.1 ∨ (x.1 = y.1 ∧ (x.2.1 < y.2.1 ∨ (x.2.1 = y.2.1 ∧ x.2.2 < y.2.2)))) := by
  unfold lt3 ltI
  by_cases c : x.1 = y.1
  · rw [if_pos c]
    by_cases d : x.2.1 = y.2.1
    · rw [if_pos d, decide_eq_false_iff_not]; omega
    · rw [if_neg d, decide_eq_false_iff_not]; omega
  · rw [if_neg c, decide_eq_false_iff_not]; omega
theorem lt3_yes {x y : Sp3} : lt3 ltI ltI ltI x y = true ↔ (x.1 < y.1 ∨ (x.1 = y.1 ∧ (x.2.1 < y.2.1 ∨ (x.2.1 = y.2.1 ∧ x.2.2 < y.2.2)))) := by
  rw [← Bool.not_eq_false, lt3_no]
  exact Classical.not_not
theorem sort3_pw (l : List Sp3) : (sortB (lt3 ltI ltI ltI) l).Pairwise fun s t => s.1 < t.1 ∨ (s.1 = t.1 ∧ s.2.1 ≤ t.2.1) := by
  have := List.pairwise_mergeSort (le := fun x y : Sp3 => !lt3 ltI ltI ltI y x) (fun a b c h1 h2 => by
    simp only [Bool.not_eq_true'] at h1 h2 ⊢
    rw [lt3_no] at h1 h2 ⊢; omega) (fun a b => by
    cases h : lt3 ltI ltI ltI b a with
    | false => rfl
    | true =>
      have : lt3 ltI ltI ltI a b = false := by
        rw [lt3_yes] at h; rw [lt3_no]; omega
      rw [this]; rfl) l
  exact this.imp fun {a b} h => by
    have h' : lt3 ltI ltI ltI b a = false := by simpa using h
    rw [lt3_no] at h'; omega
theorem sort2_pw (l : List (Int × Int)) : (sortB lpp l).Pairwise fun s t => s.1 < t.1 ∨ (s.1 = t.1 ∧ s.2 ≤ t.2) := by
  have := List.pairwise_mergeSort (le := fun x y : Int × Int => !lpp y x) (fun a b c h1 h2 => by
    simp only [Bool.not_eq_true'] at h1 h2 ⊢
    rw [lpp_no] at h1 h2 ⊢; omega) (fun a b => by
    cases h : lpp b a with
    | false => rfl
    | true =>
      have : lpp a b = false := by
        rw [lpp_iff] at h; rw [lpp_no]; omega
      rw [this]; rfl) l
  exact this.imp fun {a b} h => by
    have h' : lpp b a = false := by simpa using h
    rw [lpp_no] at h'; omega
theorem sortB_mem {α : Type} {lt : α → α → Bool} {l : List α} {x : α} : x ∈ sortB lt l ↔ x ∈ l := (List.mergeSort_perm _ _).mem_iff
theorem sortB_len {α : Type} {lt : α → α → Bool} {l : List α} : (sortB lt l).length = l.length := (List.mergeSort_perm _ _).length_eq
theorem InS.same {R S : List Sp3} (h : ∀ s, s ∈ R ↔ s ∈ S) {x y : Int} : InS R x y ↔ InS S x y :=
  ⟨fun ⟨s, m, q⟩ => ⟨s, (h s).1 m, q⟩, fun ⟨s, m, q⟩ => ⟨s, (h s).2 m, q⟩⟩
theorem Can.nil : Can [] := ⟨fun _ m => (nomatch m), List.Pairwise.nil⟩
/-- the normal form of any spans -/
theorem norm_ok {L : List Sp3} (hv : ∀ s ∈ L, s.2.1 ≤ s.2.2) : Can ((sortB (lt3 ltI ltI ltI) L).foldl stepJ []) ∧ (∀ x y, InS ((sortB (lt3 ltI ltI ltI) L).foldl stepJ []) x y ↔ InS L x y) ∧ ((sortB (lt3 ltI ltI ltI) L).foldl stepJ []).length ≤ L.length := by
  obtain ⟨a, b, c⟩ := foldJ_ok (sortB (lt3 ltI ltI ltI) L) [] Can.nil (fun s m => hv s (sortB_mem.1 m)) (fun s _ t m => nomatch m) (sort3_pw L)
  refine ⟨a, fun x y => ?_, by rw [sortB_len] at c; simpa using c⟩
  rw [b, InS.same (fun s => sortB_mem)]
  exact ⟨fun z => z.elim (fun q => absurd q InS.nil) id, .inr⟩
/-- of cells, told as (y, x) -/
def spanOf (p : Int × Int) : Sp3 := (p.1, p.2, p.2)
theorem cells_ok {L : List (Int × Int)} : Can (((sortB lpp (L.map fun c => (c.2, c.1))).map spanOf).foldl stepJ []) ∧ (∀ x y, InS (((sortB lpp (L.map fun c => (c.2, c.1))).map spanOf).foldl stepJ []) x y ↔ (x, y) ∈ L) ∧ (((sortB lpp (L.map fun c => (c.2, c.1))).map spanOf).foldl stepJ []).length ≤ L.length := by
  obtain ⟨a, b, c⟩ := foldJ_ok ((sortB lpp (L.map fun c => (c.2, c.1))).map spanOf) [] Can.nil (fun s m => by
    obtain ⟨p, _, rfl⟩ := List.mem_map.1 m; exact Int.le_refl _) (fun s _ t m => nomatch m) (List.pairwise_map.2 ((sort2_pw _).imp fun h => h))
  refine ⟨a, fun x y => ?_, by rw [List.length_map, sortB_len, List.length_map] at c; simpa using c⟩
  rw [b]
  constructor
  · rintro (q | ⟨s, m, q⟩)
    · exact absurd q InS.nil
    · obtain ⟨p, mp, rfl⟩ := List.mem_map.1 m
      obtain ⟨d, md, rfl⟩ := List.mem_map.1 (sortB_mem.1 mp)
      have e : d = (x, y) := by
        simp only [spanOf] at q
        exact Prod.ext (by show d.1 = x; omega) q.1
      rw [← e]; exact md
  · intro m
    exact .inr ⟨(y, x, x), List.mem_map.2 ⟨(y, x), sortB_mem.2 (List.mem_map.2 ⟨(x, y), m, rfl⟩), rfl⟩, rfl, Int.le_refl _, Int.le_refl _⟩
theorem stepJ_len (R : List Sp3) (s : Sp3) : (stepJ R s).length ≤ R.length + 1 := by
  unfold stepJ
  rcases List.eq_nil_or_concat R with e | ⟨R', l, e⟩
  · subst e; simp
  · subst e
    rw [List.concat_eq_append, show (R' ++ [l]).getLast? = some l by simp]
    dsimp only
    split <;> simp
theorem ixN_last {α : Type} {l : List α} {a : α} : ixN (l ++ [a]).length (-(1 : Int)) = some l.length := by
  unfold ixN
  rw [if_neg (by decide), if_pos (by simp; omega)]
  have : (-(1 : Int) + ((l ++ [a]).length : Int)).toNat = l.length := by simp; omega
  rw [this]
theorem set_last {α : Type} {l : List α} {a b : α} : (l ++ [a]).set l.length b = l ++ [b] := by
  rw [List.set_append_right _ _ (Nat.le_refl _), Nat.sub_self]; rfl
/-- how the last of a row is looked at: the program's way -/
theorem stepJ_run {Ω : Type} {t : List Sp3} {x : Sp3} {kc : List Sp3 → Option Ω} (hl : t.length + 1 ≤ SZ) :
    (if (decide ((0 : Int) < (List.length t : Int))) = true then ((atI t (-(1 : Int))).bind fun y69 =>
      if (decide (y69.1 = x.1)) = true then ((atI t (-(1 : Int))).bind fun y75 =>
        if (decide (x.2.1 ≤ (y75.2.2 + (1 : Int)))) = true then ((atI t (-(1 : Int))).bind fun y83 =>
          (atI t (-(1 : Int))).bind fun y86 =>
          (ixN (List.length t) (-(1 : Int))).bind fun n94 => kc (List.set t n94 (x.1, y83.2.1, (max y86.2.2 x.2.2))))
        else ck (decide (List.length t < SZ)) (kc (t ++ [(x.1, x.2.1, x.2.2)])))
      else (if false = true then ((atI t (-(1 : Int))).bind fun y83 =>
          (atI t (-(1 : Int))).bind fun y86 =>
          (ixN (List.length t) (-(1 : Int))).bind fun n94 => kc (List.set t n94 (x.1, y83.2.1, (max y86.2.2 x.2.2)))) else ck (decide (List.length t < SZ)) (kc (t ++ [(x.1, x.2.1, x.2.2)]))))
    else (if false = true then ((atI t (-(1 : Int))).bind fun y83 =>
          (atI t (-(1 : Int))).bind fun y86 =>
          (ixN (List.length t) (-(1 : Int))).bind fun n94 => kc (List.set t n94 (x.1, y83.2.1, (max y86.2.2 x.2.2)))) else ck (decide (List.length t < SZ)) (kc (t ++ [(x.1, x.2.1, x.2.2)])))) = kc (stepJ t x) := by
  rw [decide_eq_true (show t.length < SZ by omega), ck_true]
  unfold stepJ
  rcases List.eq_nil_or_concat t with e | ⟨R', l, e⟩
  · subst e; rfl
  · subst e
    rw [List.concat_eq_append, show (R' ++ [l]).getLast? = some l by simp, show (R' ++ [l]).dropLast = R' by simp, if_pos (decide_eq_true (show (0 : Int) < ((R' ++ [l]).length : Int) by rw [List.length_append, List.length_singleton]; omega)), atI_last, ixN_last]
    simp only [Option.bind_some, set_last]
    by_cases c : l.1 = x.1
    · by_cases d : x.2.1 ≤ l.2.2 + 1
      · rw [if_pos (decide_eq_true c), if_pos (decide_eq_true d), if_pos ⟨c, d⟩]
      · rw [if_pos (decide_eq_true c), if_neg (by simpa using d), if_neg (fun z => d z.2)]
    · rw [if_neg (show ¬ (decide (l.1 = x.1) = true) from fun z => c (of_decide_eq_true z)), if_neg (show ¬ (false = true) by decide), if_neg (show ¬ (l.1 = x.1 ∧ x.2.1 ≤ l.2.2 + 1) from fun z => c z.1)]
end Z

set_option Elab.async false
set_option linter.all false
set_option maxRecDepth 100000
namespace Z
open PySem PySem.Spec PyProof.Rows L2

/-! ### an own list read as data -/
theorem RelAll.asD {α : Type} {E : Enc α} {K : Fg} {F H : Hp} : ∀ {fps : List Addr} {vs : List V} {xs : List α}, RelAll ((it E).rel K F H) fps vs xs → RelAll ((it eD).rel K F H) fps vs (xs.map E.enc)
  | _, _, _, .nil => .nil
  | _, _, _, .cons h r => .cons h (RelAll.asD r)
section
variable {X : Cx} {R I Ω : Type} {SR : Stor R} {envR : I → Env} {kr : R → I → Option Ω} {bk ct : Lp Ω} {env : Env} {sts : List Stmt} {J : Type} {envJ : J → Env}
theorem lb_asD {f : (J → Option Ω) → Option Ω} {w : Option V} {α : Type} {E : Enc α} {xs : List α} (i : Nat) (he : env[i]? = some (.st w (List α) (ls (it E)) xs))
    (hr : LB X SR envR kr bk ct (env.set i (.st w (List PyData) (ls (it eD)) (xs.map E.enc))) sts envJ f) : LB X SR envR kr bk ct env sts envJ f :=
  fun C F H σs es σ kn ω D hK hl h hk qn qb qc qr => by
    obtain ⟨v, fp, e1, r, nd, ow, fin⟩ := h.mut (i := es.length + i) (by rw [at_app _ rfl]; exact he)
    obtain ⟨p, vs, fps, rfl, hp, ra, rfl⟩ := r
    have h2 := fin (List PyData) (ls (it eD)) (xs.map E.enc) H (p :: fps) (fun _ _ _ => rfl) (fun _ m => m) ⟨p, vs, fps, rfl, hp, ra.asD, rfl⟩ nd fun a m => ⟨(ow a m).2.2, .inl m⟩
    rw [List.set_append_right _ _ (Nat.le_add_right _ _), Nat.add_sub_cancel_left] at h2
    exact hr C F H σs es σ kn ω D hK hl h2 hk qn qb qc qr
end
/-! ### xs[::-1], order of tuples of ints -/
theorem RepAll.rev {K : Fg} {F : Hp} : ∀ {vs : List V} {ds : List PyData}, RepAll K F vs ds → RepAll K F vs.reverse ds.reverse
  | _, _, .nil => .nil
  | _, _, .cons h r => by
    rw [List.reverse_cons, List.reverse_cons]
    exact (RepAll.rev r).app (.cons h .nil)
section
variable {X : Cx} {Ω : Type} {env : Env} {pos p2 p3 p4 : Pos} {a b : Expr} {P P1 P2 τ α : Type} {S : Stor τ} {E : Enc α} {e' : P → Env} {g : τ → List α} {f : (τ → P → Option Ω) → Option Ω}
theorem lx_rev {k : Nat} (hv : LVw S (it E) g) (ha : LX X env a S e' f) : LX X env (.Subscript a (.Slice none none (some (.UnaryOp .USub (.Constant (.int 1) k p2) p3)) p4) pos) (ls (it E)) e' (fun kk => f fun x p => kk (g x).reverse p) :=
  fun C F H σs es σ k ω Q hK hl h hk q => tE.of X (pe_revL (peC X)) (lo_run (lo_of ha) (fun _ => trivial) hK hl h hk fun x p v F' H' fp hk' h' r => by
    obtain ⟨t0, vs, fps, rfl, l1, ra⟩ := hv.view h'.sF r
    have rr := ra.zero.2.rev
    rw [← List.map_reverse] at rr
    exact ⟨t0, vs, rfl, by rw [← hK]; exact l1, fun t nt => q _ p (.ref t) F' _ hk' (h'.newOw nt ⟨t, _, [], rfl, upd_same, rr.zero, rfl⟩)⟩)
end
def le3 (x y : Int × Int × Int) : Bool := if x.1 = y.1 then (if x.2.1 = y.2.1 then (if x.2.2 = y.2.2 then true else decide (x.2.2 ≤ y.2.2)) else decide (x.2.1 ≤ y.2.1)) else decide (x.1 ≤ y.1)
section
variable {X : Cx} {Ω : Type} {env : Env} {pos : Pos} {a b : Expr} {P1 P2 : Type} {e1 : P1 → Env} {e2 : P1 → P2 → Env} {fa : (Int × Int × Int → P1 → Option Ω) → Option Ω} {fb : P1 → (Int × Int × Int → P2 → Option Ω) → Option Ω}
theorem rep_t3 {K : Fg} {F H : Hp} {v : V} {x : Int × Int × Int} (s : Same F H) (h : Rep K F v ((eT3 eI eI eI).enc x)) : ∃ p, v = .ref p ∧ SqT K H p ([x.1, x.2.1, x.2.2].map V.int) := by
  obtain ⟨p, vs, rfl, h1, h2⟩ := Rep.tup_inv (ds := [.int x.1, .int x.2.1, .int x.2.2]) h
  have h3 : RepAll K F vs ([x.1, x.2.1, x.2.2].map eI.enc) := h2
  rw [h3.ints] at h1
  exact ⟨p, rfl, same_sqT s h1⟩
theorem lc_le3 (hu : X.A.units + 64 < cLine) (ha : LX X env a (it (eT3 eI eI eI)) e1 fa) (hb : ∀ p1, LX X (e1 p1) b (it (eT3 eI eI eI)) (e2 p1) (fb p1)) :
    LC X env .LtE a b (fun p : P1 × P2 => e2 p.1 p.2) (fun k => fa fun x p1 => fb p1 fun y p2 => k (le3 x y) (p1, p2)) :=
  lc_cmp (op_leT (by omega)) (lo_of ha) (fun p1 => lo_of (hb p1)) (fun _ _ => trivial) (fun _ _ => trivial) fun K F H fp fq v u x y Q hK s r1 r2 q => by
    subst hK
    obtain ⟨p, rfl, h1⟩ := rep_t3 s r1.2
    obtain ⟨p', rfl, h2⟩ := rep_t3 s r2.2
    refine ⟨p, p', _, _, rfl, rfl, h1, h2, ?_⟩
    have e : le3 x y = Ob.lexAt (fun j => decide ([x.1, x.2.1, x.2.2].getD j 0 = [y.1, y.2.1, y.2.2].getD j 0)) (fun j => decide ([x.1, x.2.1, x.2.2].getD j 0 ≤ [y.1, y.2.1, y.2.2].getD j 0)) (decide ([x.1, x.2.1, x.2.2].length ≤ [y.1, y.2.1, y.2.2].length)) 0 (min [x.1, x.2.1, x.2.2].length [y.1, y.2.1, y.2.2].length) := by
      show _ = Ob.lexAt _ _ _ 0 3
      rw [Ob.lexAt_succ, Ob.lexAt_succ, Ob.lexAt_succ, Ob.lexAt_zero]
      unfold le3
      simp
    rw [← e]; exact q
end
end Z

set_option Elab.async false
set_option linter.all false
set_option maxRecDepth 100000
namespace Z
open PySem PySem.Spec PyProof.Rows L2

/-! ### what data are, read back -/
structure Dec {τ : Type} (E : Enc τ) (g : PyData → Option τ) : Prop where
  ok : ∀ d x, g d = some x → E.enc x = d
  rt : ∀ x, g (E.enc x) = some x
def deI : PyData → Option Int | .int i => some i | _ => none
def deB : PyData → Option Bool | .bool i => some i | _ => none
def deS : PyData → Option Str | .str i => some i | _ => none
def deN : PyData → Option Unit | .none => some () | _ => none
def deD : PyData → Option PyData := some
def deAll {τ : Type} (g : PyData → Option τ) : List PyData → Option (List τ)
  | [] => some []
  | d :: ds => (g d).bind fun x => (deAll g ds).map fun xs => x :: xs
def deL {τ : Type} (g : PyData → Option τ) : PyData → Option (List τ) | .list ds => deAll g ds | _ => none
def deV {τ : Type} (g : PyData → Option τ) : PyData → Option (List τ) | .tuple ds => deAll g ds | _ => none
def deT2 {α β : Type} (a : PyData → Option α) (b : PyData → Option β) : PyData → Option (α × β)
  | .tuple [x, y] => (a x).bind fun u => (b y).map fun v => (u, v)
  | _ => none
def deT3 {α β γ : Type} (a : PyData → Option α) (b : PyData → Option β) (c : PyData → Option γ) : PyData → Option (α × β × γ)
  | .tuple [x, y, z] => (a x).bind fun u => (b y).bind fun v => (c z).map fun w => (u, v, w)
  | _ => none
def deT4 {α β γ δ : Type} (a : PyData → Option α) (b : PyData → Option β) (c : PyData → Option γ) (d : PyData → Option δ) : PyData → Option (α × β × γ × δ)
  | .tuple [x, y, z, t] => (a x).bind fun u => (b y).bind fun v => (c z).bind fun w => (d t).map fun s => (u, v, w, s)
  | _ => none
def deO {τ : Type} (g : PyData → Option τ) : PyData → Option (Option τ) | .none => some none | d => (g d).map some
section
variable {τ α β γ δ : Type} {E : Enc τ} {g : PyData → Option τ} {A : Enc α} {B : Enc β} {G : Enc γ} {D : Enc δ} {a : PyData → Option α} {b : PyData → Option β} {c : PyData → Option γ} {d : PyData → Option δ}
theorem dcI : Dec eI deI := ⟨fun d x h => by cases d <;> simp [deI] at h; subst h; rfl, fun _ => rfl⟩
theorem dcB : Dec eB deB := ⟨fun d x h => by cases d <;> simp [deB] at h; subst h; rfl, fun _ => rfl⟩
theorem dcS : Dec eS deS := ⟨fun d x h => by cases d <;> simp [deS] at h; subst h; rfl, fun _ => rfl⟩
theorem dcN : Dec eN deN := ⟨fun d x h => by cases d <;> simp [deN] at h; rfl, fun _ => rfl⟩
theorem dcD : Dec eD deD := ⟨fun d x h => by simp [deD] at h; subst h; rfl, fun _ => rfl⟩
theorem deAll_ok (h : Dec E g) : ∀ (ds : List PyData) (xs : List τ), deAll g ds = some xs → xs.map E.enc = ds
  | [], xs, e => by simp [deAll] at e; subst e; rfl
  | d :: ds, xs, e => by
    unfold deAll at e
    cases e1 : g d with
    | none => rw [e1] at e; cases e
    | some x =>
      rw [e1, Option.bind_some] at e
      cases e2 : deAll g ds with
      | none => rw [e2] at e; cases e
      | some ys =>
        rw [e2] at e
        cases e
        rw [List.map_cons, h.ok d x e1, deAll_ok h ds ys e2]
theorem deAll_rt (h : Dec E g) : ∀ xs : List τ, deAll g (xs.map E.enc) = some xs
  | [] => rfl
  | x :: xs => by rw [List.map_cons, deAll, h.rt, Option.bind_some, deAll_rt h xs]; rfl
theorem dcL (h : Dec E g) : Dec (eL E) (deL g) := ⟨fun d x e => by
  cases d <;> simp only [deL] at e <;> first | cases e | skip
  exact congrArg PyData.list (deAll_ok h _ _ e), fun x => deAll_rt h x⟩
theorem dcV (h : Dec E g) : Dec (eV E) (deV g) := ⟨fun d x e => by
  cases d <;> simp only [deV] at e <;> first | cases e | skip
  exact congrArg PyData.tuple (deAll_ok h _ _ e), fun x => deAll_rt h x⟩
theorem bind_eq' {α β : Type} {o : Option α} {f : α → Option β} {y : β} (h : o.bind f = some y) : ∃ x, o = some x ∧ f x = some y := bind_some h
theorem map_eq' {α β : Type} {o : Option α} {f : α → β} {y : β} (h : o.map f = some y) : ∃ x, o = some x ∧ f x = y := by
  cases o with
  | none => cases h
  | some x => exact ⟨x, rfl, Option.some.inj h⟩
theorem dcT2 (ha : Dec A a) (hb : Dec B b) : Dec (eT2 A B) (deT2 a b) := ⟨fun d x e => by
  unfold deT2 at e
  split at e
  · obtain ⟨u, e1, e⟩ := bind_some e
    obtain ⟨v, e2, e⟩ := map_eq' e
    subst e
    show PyData.tuple [A.enc u, B.enc v] = _
    rw [ha.ok _ _ e1, hb.ok _ _ e2]
  · exact absurd e (by simp), fun x => by
  show (a (A.enc x.1)).bind _ = _
  rw [ha.rt, Option.bind_some, hb.rt]; rfl⟩
theorem dcT3 (ha : Dec A a) (hb : Dec B b) (hc : Dec G c) : Dec (eT3 A B G) (deT3 a b c) := ⟨fun d x e => by
  unfold deT3 at e
  split at e
  · obtain ⟨u, e1, e⟩ := bind_some e
    obtain ⟨v, e2, e⟩ := bind_some e
    obtain ⟨w, e3, e⟩ := map_eq' e
    subst e
    show PyData.tuple [A.enc u, B.enc v, G.enc w] = _
    rw [ha.ok _ _ e1, hb.ok _ _ e2, hc.ok _ _ e3]
  · exact absurd e (by simp), fun x => by
  show (a (A.enc x.1)).bind _ = _
  rw [ha.rt, Option.bind_some, hb.rt, Option.bind_some, hc.rt]; rfl⟩
theorem dcT4 (ha : Dec A a) (hb : Dec B b) (hc : Dec G c) (hd : Dec D d) : Dec (eT4 A B G D) (deT4 a b c d) := ⟨fun d x e => by
  unfold deT4 at e
  split at e
  · obtain ⟨u, e1, e⟩ := bind_some e
    obtain ⟨v, e2, e⟩ := bind_some e
    obtain ⟨w, e3, e⟩ := bind_some e
    obtain ⟨z, e4, e⟩ := map_eq' e
    subst e
    show PyData.tuple [A.enc u, B.enc v, G.enc w, D.enc z] = _
    rw [ha.ok _ _ e1, hb.ok _ _ e2, hc.ok _ _ e3, hd.ok _ _ e4]
  · exact absurd e (by simp), fun x => by
  show (a (A.enc x.1)).bind _ = _
  rw [ha.rt, Option.bind_some, hb.rt, Option.bind_some, hc.rt, Option.bind_some, hd.rt]; rfl⟩
theorem dcO {hn : ∀ x, E.enc x ≠ .none} (h : Dec E g) : Dec (eO E hn) (deO g) := ⟨fun d x e => by
  unfold deO at e
  split at e
  · cases e; rfl
  · obtain ⟨y, e1, e⟩ := map_eq' e
    subst e
    exact h.ok _ _ e1, fun x => by
  cases x with
  | none => rfl
  | some x =>
    show deO g (E.enc x) = _
    unfold deO
    split
    · rename_i e; exact absurd e (hn x)
    · rw [h.rt]; rfl⟩
end
/-- a part of data -/
def partD (d : PyData) (n : Int) : Option PyData := match d with
  | .tuple ds => atI ds n
  | .list ds => atI ds n
  | _ => none

section
variable {X : Cx} {Ω : Type} {env : Env} {nm : Str} {pos np : Pos} {a b c e : Expr} {P P1 P2 P3 : Type} {τ τ1 τ2 α β : Type} {S : Stor τ} {S1 : Stor τ1} {S2 : Stor τ2} {E : Enc τ} {E1 : Enc τ1} {E2 : Enc τ2} {G : Env → Prop} {e' : P → Env} {e1 : P1 → Env} {e2 : P1 → P2 → Env} {e3 : P1 → P2 → P3 → Env} {f : (τ → P → Option Ω) → Option Ω}
theorem lx_dec {τ' : Type} {E' : Enc τ'} {g : PyData → Option τ'} (dc : Dec E' g) {f : (PyData → P → Option Ω) → Option Ω} (h : LX X env e (it eD) e' f) : LX X env e (it E') e' (fun (k : τ' → P → Option Ω) => f fun a p => (g a).bind fun b => k b p) :=
  lx_cast h g fun d b hb => dc.ok d b hb
/-- d[n] of data -/
theorem lx_ixD {fa : (PyData → P1 → Option Ω) → Option Ω} {fb : P1 → (Int → P2 → Option Ω) → Option Ω} (ha : LX X env a (it eD) e1 fa) (hb : ∀ p1, LX X (e1 p1) b (it eI) (e2 p1) (fb p1)) (hp : PlainIx b := by exact fun _ _ => rfl) :
    LX X env (.Subscript a b pos) (it eD) (fun p : P1 × P2 => e2 p.1 p.2) (fun k => fa fun x p1 => fb p1 fun i p2 => (partD x i).bind fun y => k y (p1, p2)) :=
  fun C F H σs es σ k ω Q hK hl h hk q => tE.of X (pe_ix ix_seq (peC X) (peC X) hp) (op2_run (lo_of ha) (fun p1 => lo_of (hb p1)) (fun _ _ => trivial) (fun _ _ => trivial) hK hl h hk
    fun x p1 i p2 v u F' H' fp fq hk' h' r1 r2 => by
      obtain ⟨y, hy, hk2⟩ := bind_some hk'
      clear hk'
      obtain ⟨_, r2⟩ := r2
      obtain ⟨_, r1⟩ := r1
      cases r2
      have r1' : Rep C.K F' v x := r1
      unfold partD at hy
      split at hy
      · obtain ⟨p, vs, rfl, h1, h2⟩ := r1'.tup_inv
        obtain ⟨w, hw, rw'⟩ := h2.atD hy
        exact .inr (.inl ⟨p, vs, i, w, rfl, rfl, by rw [← hK]; exact same_sqT h'.sF h1, hw, q y (p1, p2) w F' H' hk2 (h'.pushSh rw')⟩)
      · obtain ⟨p, vs, rfl, h1, h2⟩ := r1'.lst_inv
        obtain ⟨w, hw, rw'⟩ := h2.atD hy
        exact .inl ⟨p, vs, i, w, rfl, rfl, by rw [← hK]; exact SqL.of (h'.sF _ _ h1), hw, q y (p1, p2) w F' H' hk2 (h'.pushSh rw')⟩
      · cases hy)
/-- is a list not empty -/
theorem lt_tru {g : τ → List α} {Sa : Stor α} (hv : LVw S Sa g) (ha : LO X G env a S e' f) (hG : ∀ p, G (e' p)) (he : ∀ whole, isTrue a X.env whole = (do let v ← whole; standAt a.pos; holding [v] (truthy v)) := by intro _; rfl) :
    LT X env a e' (fun k => f fun x p => k (!(g x).isEmpty) p) :=
  fun C F H σs es σ k ω Q hK hl h hk q => tT.of X (pt_truth (peC X) he) (lo_run ha hG hK hl h hk fun x p v F' H' fp hk' h' rr => by
    obtain ⟨t, vs, fps, rfl, h1, h2⟩ := hv.view h'.sF rr
    refine ⟨!(g x).isEmpty, .inl ⟨vs, by rw [← hK]; exact h1, ?_⟩, q _ p F' H' hk' h'⟩
    have := h2.length
    cases vs <;> cases hgx : g x <;> rw [hgx] at this <;> simp_all)
/-- a tuple of a kind: never empty -/
theorem lt_truI {f : (Int → P → Option Ω) → Option Ω} (ha : LX X env a (it eI) e' f) (he : ∀ whole, isTrue a X.env whole = (do let v ← whole; standAt a.pos; holding [v] (truthy v)) := by intro _; rfl) :
    LT X env a e' (fun k => f fun x p => k (x != 0) p) :=
  fun C F H σs es σ k ω Q hK hl h hk q => tT.of X (pt_truth (peC X) he) (lo_run (lo_of ha) (fun _ => trivial) hK hl h hk fun x p v F' H' fp hk' h' rr => by
    obtain ⟨_, rr⟩ := rr
    cases rr
    exact ⟨x != 0, rfl, q _ p F' H' hk' h'⟩)
end
end Z

set_option Elab.async false
set_option linter.all false
set_option maxRecDepth 100000
namespace Z
open PySem PySem.Spec PyProof.Rows L2

/-! ### set(xs) of ints, sorted -/
section
variable {P : Program} {w : World} {A : Around} {E : Value → Shared → Prop} {s : Shared}
def inSet (val : Nat → Int) (i : Nat) (z : Int) : Bool := ((List.range i).map val).any fun y => y == z
theorem inSet_step (val : Nat → Int) (i : Nat) (z : Int) : inSet val (i + 1) z = (inSet val i z || decide (z = val i)) := by
  unfold inSet
  rw [List.range_succ, List.map_append, List.any_append]
  simp only [List.map_cons, List.map_nil, List.any_cons, List.any_nil, Bool.or_false]
  congr 1
  by_cases h : val i = z
  · rw [beq_iff_eq.2 h, decide_eq_true h.symm]
  · rw [beq_eq_false_iff_ne.2 h, decide_eq_false fun q => h q.symm]
theorem setR_loop {I : Addr} {fp wr : List Addr} {Γ : Array GenState → Array GenState → Prop} {n : Nat} {Pv : Nat → Value → Prop} {St : Nat → Shared → Prop} {R : Result → Shared → Prop} (W : WalksS P w A.in1 I fp wr Γ n Pv St) (d : Addr) (hd : d ∉ fp)
    (val : Nat → Int) (hval : ∀ i v, Pv i v → ∃ t, v = .int (val i) t) (hb : n + 1 < scanBound) : ∀ (k i : Nat) (s : Shared), n - i = k → i ≤ n → St i s → (∃ c, SetR w s.heap d (inSet val i) c ∧ c ≤ i) →
    (∀ s' c, Moved (d :: wr) Γ s s' → SetR w s'.heap d (inSet val n) c → c ≤ n → R (.ok (.ret .none)) s') → codeAny (model P w) A (.builtin "set.update.loop" ⟨[.ref d, .ref I], []⟩) R s := by
  have hdw : d ∉ wr := fun h => hd (W.sub _ h)
  have up : ∀ b ∈ wr, b ∈ d :: wr := fun b m => List.mem_cons_of_mem _ m
  intro k
  induction k with
  | zero =>
    rintro i s hk hi hst ⟨c, hc, hci⟩ hR
    obtain rfl : i = n := by omega
    refine codeAny_builtin PyProof.Rows.F.entry_set_update_loop ?_; rw [Around.under_plainId PyProof.Rows.F.plain_set_update_loop _]
    show wpAny _ A.in1 (pyNext (.ref I) >>= _) _ _ s; refine wpAny_bind (W.done s _ _ hst fun s' hm => ?_)
    show wpAny _ A.in1 (ret Value.none) _ _ s'; exact wpAny_pure (hR s' c (hm.mono up) (hc.at fun o e => hm.heap d o hdw e) hci)
  | succ k ih =>
    rintro i s hk hi hst ⟨c, hc, hci⟩ hR
    have hlt : i < n := by omega
    refine codeAny_builtin PyProof.Rows.F.entry_set_update_loop ?_; rw [Around.under_plainId PyProof.Rows.F.plain_set_update_loop _]
    show wpAny _ A.in1 (pyNext (.ref I) >>= _) _ _ s; refine wpAny_bind (W.item i s _ _ hlt hst fun v s' hP hst' hm => ?_)
    obtain ⟨t, rfl⟩ := hval i v hP
    have hc' : SetR w s'.heap d (inSet val i) c := hc.at fun o e => hm.heap d o hdw e
    show wpAny _ A.in1 (holding [Value.int (val i) t] (setAdd d (.int (val i) t)) >>= _) _ _ s'; refine wpAny_bind (wpAny_holding ?_)
    unfold setAdd; refine wpAny_holding (wpAny_bind ((intKind P w).pyHash (k := val i) (intKind_is P w _ _) ?_))
    refine setR_add_hashed (s := { s' with toks := s'.toks + 1 }) hc' (by omega) fun h' sb r => ?_
    have r' : SetR w h' d (inSet val (i + 1)) (if inSet val i (val i) = true then c else c + 1) := r.congr fun z => inSet_step val i z
    refine wpAny_pure ⟨plainId_quiet PyProof.Rows.F.plain_set_update_loop _, ih (i + 1) _ (by omega) hlt (W.frame _ s' _ _ hst' (Nat.le_succ _) fun b m o e => ?_) ⟨_, r', by split <;> omega⟩ fun s2 c2 hm2 h2 l2 => hR s2 c2 (Moved.trans W.gtrans ((hm.mono up).then_heap (Nat.le_succ _) fun b o m e => ?_) hm2) h2 l2⟩
    · rw [sb.2 b (fun q : b = d => hd (q ▸ m))]; exact e
    · rw [sb.2 b (fun q : b = d => m (q ▸ List.mem_cons_self))]; exact e
abbrev newSet (w : World) : Obj := { cls := .type "set", dict := none, data := .set #[] 0 (.fresh 0 0 (!w.params.followText "set-order")) }
set_option maxHeartbeats 3200000 in
theorem setR_list {l : Addr} {items : Array Value} {ns : List Int} {Q : Value → Shared → Prop} (hh : A.handled = none) (hl : s.heap.IsList l items) (hi : IntsAre items.toList ns) (hb : items.size + 1 < scanBound)
    (h : ∀ (h' : Heap) (tk c : Nat), SetR w h' s.heap.objs.size (inSet (fun i => ns.getD i 0) items.size) c → c ≤ items.size → (∀ b o, s.heap.get? b = some o → h'.get? b = some o) → Q (.ref s.heap.objs.size) { s with heap := h', toks := tk }) :
    wpAny (model P w) A (call (.type "set") [.ref l]) Q E s := by
  obtain ⟨c0, tl, hmro⟩ := PySem.F.called_set.mro
  have hmade := PySem.F.called_set.made; have hsub := PySem.F.called_set.sub
  refine wpAny_call (codeAny_of_tree ?_); show wpAny _ _ (callAny (.type "set") _) _ _ _
  refine wpAny_pure ⟨Code.quiet_builtin _ (by decide +kernel), codeAny_builtin PySem.F.entry_type_call ?_⟩; rw [Around.under_plain (weight_type_call_type "set" [.ref l] []) rfl]
  have h1 := PySem.F.called_set.notType; have h2 := PySem.F.called_set.canCreate; have hct := PySem.F.typeCall_set_1 (.ref l)
  repeat (any_goals (first | assumption | wp_step))
  refine codeAny_mono (code_set_led1 (.ref l) (E := E) (Q₁ := fun obj s₁ => obj = .ref s.heap.objs.size ∧ s₁ = { s with heap := s.heap.push (newSet w) }) ⟨rfl, rfl⟩) fun r s₁ hr => ?_
  cases r with
  | error e => exact hr
  | ok fl =>
    cases fl with
    | ret obj =>
      obtain ⟨rfl, rfl⟩ := hr
      have hS : (s.heap.push (newSet w)).get? s.heap.objs.size = some (newSet w) := Heap.get?_push_size _ rfl
      have hT : Shared.TypeIs { s with heap := s.heap.push (newSet w) } (.ref s.heap.objs.size) "set" := ⟨_, hS, rfl⟩
      have hli := PySem.F.called_set.init.lookup; have hbi := PySem.F.called_set.init.bind (.ref s.heap.objs.size)
      repeat (any_goals (first | assumption | wp_step))
      refine codeAny_mono (codeAny_call_builtin (R := wants (fun r s₂ => r = .none ∧ ∃ h' tk c, s₂ = { s with heap := h', toks := tk } ∧ SetR w h' s.heap.objs.size (inSet (fun i => ns.getD i 0) items.size) c ∧ c ≤ items.size ∧ (∀ b o, s.heap.get? b = some o → h'.get? b = some o)) E) PySem.F.called_set.init.plain PySem.F.entry_set_init (check_set_init_1 hT ?_)) fun r₂ s₂ hr₂ => ?_
      · obtain ⟨ol, hol, hcl, nl, hdl⟩ := hl
        obtain ⟨ocls, odict, odata, oslots⟩ := ol
        simp only at hcl hdl; subst hcl; subst hdl
        have hol' : (s.heap.push (newSet w)).get? l = some { cls := .type "list", dict := odict, data := .seq items nl, slots := oslots } := Heap.get?_push_of_some _ hol
        have hsls := PySem.F.sub_list_set; have hslf := PySem.F.sub_list_frozenset
        have hne : (Value.type "list" == Value.type "dict") = false := by decide
        have hl1 : (s.heap.push (newSet w)).IsList l items := ⟨_, hol', rfl, nl, rfl⟩
        unfold Builtin.«set.__init__» noKeywords Builtin.Frozenset.updateFrom; generalize hPI : pyIter = PI
        wp_walk; subst hPI
        refine wpAny_pyIter_list hl1 (wpAny_bind (wpAny_runValue ?_))
        have hlS : l < s.heap.objs.size := Heap.lt_size hol
        have hz1 : (s.heap.push (newSet w)).objs.size = s.heap.objs.size + 1 := Heap.size_push ..
        have hneI : l ≠ (s.heap.push (newSet w)).objs.size := by rw [hz1]; exact Nat.ne_of_lt (Nat.lt_succ_of_lt hlS)
        have hSf : s.heap.objs.size ∉ [(s.heap.push (newSet w)).objs.size, l] := by
          rw [hz1]; intro m; rcases List.mem_cons.1 m with q | m; exact absurd q (Nat.ne_of_lt (Nat.lt_succ_self _)); exact absurd (List.mem_singleton.1 m) (Nat.ne_of_gt hlS)
        have hval : ∀ (i : Nat) (v : Value), items[i]? = some v → ∃ t, v = .int ((fun i => ns.getD i 0) i) t := fun i v hv => PyProof.Rows.IntsAre.int_at hi i v (by rw [Array.getElem?_toList]; exact hv)
        refine setR_loop ((Walks.list (show A.in1.in1.in1.handled = none by simp [hh]) _ l hneI items).toS) s.heap.objs.size hSf (fun i => ns.getD i 0) hval hb (items.size - 0) 0 _ (by omega) (Nat.zero_le _) ⟨⟨_, Heap.get?_push_size _ rfl, rfl, rfl⟩, (hl1.push _)⟩ ⟨0, ?hS0, Nat.le_refl _⟩ ?hR
        case hS0 =>
          exact ((setR_fresh (h := s.heap) w).at fun o e => Heap.get?_push_of_some _ e).congr fun _ => rfl
        case hR =>
          rintro ⟨h', g2, d', tk', os'⟩ c hm hS' hc
          obtain rfl : g2 = s.gens := hm.gens
          obtain rfl : d' = s.drawn := hm.drawn
          obtain rfl : os' = s.os := hm.os
          show wpAny _ _ _ _ _ _; refine wpAny_pure ?_; show wpAny _ _ (ret Value.none) _ _ _
          refine wpAny_pure ⟨rfl, h', tk', c, rfl, hS', hc, fun b o e => ?_⟩
          have hb0 := Heap.lt_size e
          exact hm.heap b o (by rw [hz1]; intro m; rcases List.mem_cons.1 m with q | m; exact absurd q (Nat.ne_of_lt hb0); exact absurd (List.mem_singleton.1 m) (Nat.ne_of_lt (Nat.lt_succ_of_lt hb0))) (Heap.get?_push_of_some _ (Heap.get?_push_of_some _ e))
      · cases r₂ with
        | error e => exact hr₂
        | ok fl₂ =>
          cases fl₂ with
          | ret r =>
            obtain ⟨rfl, h', tk, c, rfl, hS', hc, hk'⟩ := hr₂
            repeat (any_goals (first | assumption | wp_step))
            exact h _ _ _ hS' hc hk'
          | _ => exact hr₂.elim
    | _ => exact hr.elim
end
section
variable {X : Cx}
def rSetI (K : Fg) (w : World) : List V → Hp → VK → Prop := fun vs H Q => ∃ (l : Addr) (ns : List Int), vs = [V.ref l] ∧ SqL K H l (ns.map V.int) ∧ ns.length < 64 ∧
  ∀ p S c, H p = none → (∀ z : Int, S z = true ↔ z ∈ ns) → c < 64 → Q (.ref p) (upd H p (SetO w p S c))
theorem cr_setI (hc : X.calm = true) : CallR X (.type "set") (rSetI X.K X.w) := by
  intro pins s σ H vs us Q I r h
  obtain ⟨l, ns, rfl, hs, h64, q⟩ := h
  rw [Vals.ref1 r]
  obtain ⟨uts, rv, pl, hz⟩ := I.list hs
  have hi := intsAre_of rv
  have hlen : uts.length = ns.length := by have := rv.length; simpa using this.symm
  refine setR_list (items := uts.toArray) (ns := ns) (I.ok.hd hc) pl.isList (by simpa using hi) (by simp [hlen]; unfold scanBound; omega) fun h' tk c R hc hk => ?_
  have hn : H s.heap.objs.size = none := I.hok.fresh (Nat.le_refl _)
  refine ⟨.ref _, upd H s.heap.objs.size (SetO X.w s.heap.objs.size (inSet (fun i => ns.getD i 0) uts.toArray.size) c), I.laid (t' := tk) hk (Nat.le_refl _) (setO_new R), rfl, q _ _ c hn (fun z => ?_) (by simp [hlen] at hc; omega)⟩
  unfold inSet
  rw [List.any_eq_true]
  simp only [List.mem_map, List.mem_range, beq_iff_eq, List.size_toArray, hlen]
  constructor
  · rintro ⟨y, ⟨i, hi, rfl⟩, rfl⟩
    rw [List.getD_eq_getElem?_getD, List.getElem?_eq_getElem hi]
    exact List.getElem_mem hi
  · intro m
    obtain ⟨i, hi, e⟩ := List.mem_iff_getElem.1 m
    exact ⟨z, ⟨i, hi, by rw [List.getD_eq_getElem?_getD, List.getElem?_eq_getElem hi, e]; rfl⟩, rfl⟩
/-- the members, ascending, each once -/
def usort : List Int → List Int
  | [] => []
  | x :: xs => let r := usort xs; if x ∈ r then r else r.filter (· < x) ++ x :: r.filter (x < ·)
theorem usort_mem {xs : List Int} {z : Int} : z ∈ usort xs ↔ z ∈ xs := by
  induction xs generalizing z with
  | nil => simp [usort]
  | cons x xs ih =>
    simp only [usort]
    split
    · rename_i h
      rw [ih] at h
      rw [ih, List.mem_cons]
      exact ⟨.inr, fun q => q.elim (fun e => e ▸ h) id⟩
    · rename_i h
      simp only [List.mem_append, List.mem_filter, List.mem_cons, decide_eq_true_eq, ih] at h ⊢
      constructor
      · rintro (q | q | q)
        · exact .inr q.1
        · exact .inl q
        · exact .inr q.1
      · rintro (q | q)
        · exact .inr (.inl q)
        · by_cases c : z < x
          · exact .inl ⟨q, c⟩
          · by_cases d : z = x
            · exact .inr (.inl d)
            · exact .inr (.inr ⟨q, by omega⟩)
theorem usort_pw : ∀ (xs : List Int), (usort xs).Pairwise (· < ·)
  | [] => List.Pairwise.nil
  | x :: xs => by
    have ih := usort_pw xs
    simp only [usort]
    split
    · exact ih
    · refine List.pairwise_append.2 ⟨ih.filter _, List.pairwise_cons.2 ⟨fun y m => by simpa using (List.mem_filter.1 m).2, ih.filter _⟩, fun y m z n => ?_⟩
      have hy : y < x := by simpa using (List.mem_filter.1 m).2
      rcases List.mem_cons.1 n with rfl | n
      · exact hy
      · have : x < z := by simpa using (List.mem_filter.1 n).2
        omega
theorem asc_uniq : ∀ {xs ys : List Int}, xs.Pairwise (· < ·) → ys.Pairwise (· < ·) → (∀ z, z ∈ xs ↔ z ∈ ys) → xs = ys
  | [], [], _, _, _ => rfl
  | [], y :: ys, _, _, h => by have := (h y).2 (List.mem_cons_self ..); cases this
  | x :: xs, [], _, _, h => by have := (h x).1 (List.mem_cons_self ..); cases this
  | x :: xs, y :: ys, p, q, h => by
    obtain ⟨p1, p2⟩ := List.pairwise_cons.1 p
    obtain ⟨q1, q2⟩ := List.pairwise_cons.1 q
    have e : x = y := by
      rcases List.mem_cons.1 ((h x).1 (List.mem_cons_self ..)) with e | m
      · exact e
      · rcases List.mem_cons.1 ((h y).2 (List.mem_cons_self ..)) with e | n
        · exact e.symm
        · have := p1 y n; have := q1 x m; omega
    subst e
    rw [asc_uniq p2 q2 fun z => ?_]
    constructor
    · intro m
      rcases List.mem_cons.1 ((h z).1 (List.mem_cons_of_mem _ m)) with e | n
      · have := p1 z m; omega
      · exact n
    · intro m
      rcases List.mem_cons.1 ((h z).2 (List.mem_cons_of_mem _ m)) with e | n
      · have := q1 z m; omega
      · exact n
theorem usort_is {xs ys : List Int} (p : ys.Pairwise (· < ·)) (h : ∀ z, z ∈ ys ↔ z ∈ xs) : ys = usort xs := asc_uniq p (usort_pw xs) fun z => by rw [usort_mem, h]
end
section
variable {X : Cx} {Ω : Type} {env : Env} {pos pos2 np np2 : Pos} {a : Expr} {P : Type} {τ : Type} {S : Stor τ} {G : Env → Prop} {e' : P → Env} {f : (τ → P → Option Ω) → Option Ω} {g : τ → List Int}
/-- sorted(set(xs)) of ints, fewer than 64 -/
theorem lx_usort (hc : X.calm = true) (hv : LVw S (it eI) g) (hm : X.mg "sorted" = none) (hm2 : X.mg "set" = none) (ha : LO X G env a S e' f) (hG : ∀ p, G (e' p)) (hg : Gl X "sorted" := by rfl) (hg2 : Gl X "set" := by rfl)
    (he : starEach (a :: []) X.env = (false, eval a X.env) :: starEach [] X.env := by rfl) (he2 : starEach (Expr.Call (.Name "set" np2) [a] [] pos2 :: []) X.env = (false, eval (Expr.Call (.Name "set" np2) [a] [] pos2) X.env) :: starEach [] X.env := by rfl)
    (hpl : (backTo pos (starEach [] X.env)).any (·.1) = false := by rfl) (hpl2 : (backTo pos2 (starEach [] X.env)).any (·.1) = false := by rfl) :
    LX X env (.Call (.Name "sorted" np) [.Call (.Name "set" np2) [a] [] pos2] [] pos) (ls (it eI)) e' (fun k => f fun x p => ck (decide ((g x).length < 64)) (k (usort (g x)) p)) :=
  fun C F H σs es σ k ω Q hK hl h hk q => tE.of X (pe_callB (cr_sortedSet hc) hg hm boot_sorted (pa_cons (pe_callTy (cr_setI hc) hg2 hm2 PyProof.Rows.boot_set (pa_cons (peC X) pa_nil he) (by decide) (by decide) he hpl2) pa_nil he2) (by decide) (by decide) he2 hpl)
    (lo_run ha hG hK hl h hk fun x p v F' H' fp hk' h' rr => by
      obtain ⟨hc, hk2⟩ := ck_some hk'
      clear hk'
      obtain ⟨t, vs, fps, rfl, h1, h2⟩ := hv.view h'.sF rr
      have := h2.zero.2.ints
      subst this
      refine ⟨t, g x, rfl, by rw [← hK]; exact h1, of_decide_eq_true hc, fun d S c nd hS hc => ?_⟩
      refine ⟨d, S, c, rfl, upd_same, hc, fun ns b pw hm hl nb => ?_⟩
      have e := usort_is (xs := g x) pw fun z => by rw [hm, hS]
      subst e
      have h3 := h'.newH (u := SetO X.w d S c) nd
      exact q _ p _ F' _ hk2 (h3.newOw nb ⟨b, _, [], rfl, upd_same, (RepAll.ofInts (usort (g x))).zero, rfl⟩))
end
end Z

set_option Elab.async false
set_option linter.all false
set_option maxRecDepth 100000
namespace Z
open PySem PySem.Spec PyProof.Rows L2

section
variable {X : Cx} {Ω : Type} {env : Env} {nm nm2 nm3 : Str} {pos np tp : Pos} {a b c e : Expr} {P P1 P2 P3 : Type} {τ τ1 τ2 τ3 α β : Type} {S : Stor τ} {S1 : Stor τ1} {S2 : Stor τ2} {S3 : Stor τ3} {E : Enc τ} {E1 : Enc τ1} {E2 : Enc τ2} {E3 : Enc τ3} {G : Env → Prop} {e' : P → Env} {e1 : P1 → Env} {e2 : P1 → P2 → Env} {e3 : P1 → P2 → P3 → Env} {f : (τ → P → Option Ω) → Option Ω}
/-! ### a < b < c of ints -/
section
variable {op op' : CmpOp} {r r' : R2} {g g' : Int → Int → Bool} {fa : (Int → P1 → Option Ω) → Option Ω} {fb : P1 → (Int → P2 → Option Ω) → Option Ω} {fc : P1 → P2 → (Int → P3 → Option Ω) → Option Ω}
structure CoI (X : Cx) (op : CmpOp) (g : Int → Int → Bool) : Prop where
  ex : ∃ r, OpR X (compareOp op) r ∧ ∀ i j H (Q : VK), Q (.bl (g i j)) H → r (.int i) (.int j) H Q
theorem coLt : CoI X .Lt fun x y => decide (x < y) := ⟨_, op_lt, fun i j _ _ q => ⟨i, j, rfl, rfl, q⟩⟩
theorem coLe : CoI X .LtE fun x y => decide (x ≤ y) := ⟨_, op_le, fun i j _ _ q => ⟨i, j, rfl, rfl, q⟩⟩
theorem chain_run (ha : LX X env a (it eI) e1 fa) (hb : ∀ p1, LX X (e1 p1) b (it eI) (e2 p1) (fb p1)) (hc : ∀ p1 p2, LX X (e2 p1 p2) c (it eI) (e3 p1 p2) (fc p1 p2)) (hs : ∀ p1 p2 p3, Sub (e3 p1 p2 p3) (e2 p1 p2))
    (hr : ∀ i j H (Q : VK), Q (.bl (g i j)) H → r (.int i) (.int j) H Q) (hr' : ∀ i j H (Q : VK), Q (.bl (g' i j)) H → r' (.int i) (.int j) H Q)
    {C : Ck} {F H : Hp} {σs : List (Option V)} {es : Env} {σ : List (Option V)} {k : Bool → P1 × P2 → Option Ω} {ω : Ω} {R : VK} (hK : C.K = X.K) (hl : σs.length = es.length) (h : ER C F H (σs ++ σ) (es ++ env))
    (hk : (fa fun x p1 => fb p1 fun y p2 => if g x y = true then fc p1 p2 fun z _ => k (g' y z) (p1, p2) else k false (p1, p2)) = some ω)
    (q : ∀ b p1 p2 F' H', k b (p1, p2) = some ω → ER C F' H' (σs ++ σ) (es ++ e2 p1 p2) → R (.bl b) H') : tChain r r' (tE X a) (tE X b) (tE X c) σ H R :=
  op2_run (lo_of ha) (fun p1 => lo_of (hb p1)) (fun _ _ => trivial) (fun _ _ => trivial) hK hl h hk fun x p1 y p2 v u F' H' fp fq hk' h' r1 r2 => by
    obtain ⟨_, r1⟩ := r1
    obtain ⟨_, r2⟩ := r2
    cases r1; cases r2
    refine hr x y H' _ ⟨g x y, rfl, ?_⟩
    cases gx : g x y with
    | false =>
      rw [gx, if_neg Bool.false_ne_true] at hk'
      rw [if_neg Bool.false_ne_true]
      exact q false p1 p2 F' H' hk' h'
    | true =>
      rw [gx, if_pos rfl] at hk'
      rw [if_pos rfl]
      refine hc p1 p2 C F' H' σs es σ _ ω _ hK hl h' hk' fun z p3 w F2 H2 hk2 h2 => ?_
      obtain ⟨w', fp, e1, _, r3⟩ := h2.look (i := 0) rfl
      simp at e1; subst e1
      cases r3
      exact hr' y z H2 R (q _ p1 p2 F2 H2 hk2 ((h2.pop).sub ((hs p1 p2 p3).pre es)))
theorem lx_chain (co : CoI X op g) (co' : CoI X op' g') (ha : LX X env a (it eI) e1 fa) (hb : ∀ p1, LX X (e1 p1) b (it eI) (e2 p1) (fb p1)) (hc : ∀ p1 p2, LX X (e2 p1 p2) c (it eI) (e3 p1 p2) (fc p1 p2)) (hs : ∀ p1 p2 p3, Sub (e3 p1 p2 p3) (e2 p1 p2))
    (hm : lastMarks [op, op'] [b, c] = false := by with_unfolding_all rfl) : LX X env (.Compare a [op, op'] [b, c] pos) (it eB) (fun p : P1 × P2 => e2 p.1 p.2) (fun k => fa fun x p1 => fb p1 fun y p2 => if g x y = true then fc p1 p2 fun z _ => k (g' y z) (p1, p2) else k false (p1, p2)) := by
  obtain ⟨r, ho, hr⟩ := co.ex
  obtain ⟨r', ho', hr'⟩ := co'.ex
  exact fun C F H σs es σ k ω Q hK hl h hk q => tE.of X (pe_chain ho ho' (peC X) (peC X) (peC X) hm) (chain_run ha hb hc hs hr hr' hK hl h hk fun b p1 p2 F' H' hk' h' => q b (p1, p2) _ F' H' hk' (h'.pushSh (.bl b)))
theorem lt_chain (co : CoI X op g) (co' : CoI X op' g') (ha : LX X env a (it eI) e1 fa) (hb : ∀ p1, LX X (e1 p1) b (it eI) (e2 p1) (fb p1)) (hc : ∀ p1 p2, LX X (e2 p1 p2) c (it eI) (e3 p1 p2) (fc p1 p2)) (hs : ∀ p1 p2 p3, Sub (e3 p1 p2 p3) (e2 p1 p2))
    (hm : lastMarks [op, op'] [b, c] = false := by with_unfolding_all rfl) : LT X env (.Compare a [op, op'] [b, c] pos) (fun p : P1 × P2 => e2 p.1 p.2) (fun k => fa fun x p1 => fb p1 fun y p2 => if g x y = true then fc p1 p2 fun z _ => k (g' y z) (p1, p2) else k false (p1, p2)) := by
  obtain ⟨r, ho, hr⟩ := co.ex
  obtain ⟨r', ho', hr'⟩ := co'.ex
  exact fun C F H σs es σ k ω Q hK hl h hk q => tT.of X (pt_chain ho ho' (peC X) (peC X) (peC X) hm) (chain_run ha hb hc hs hr hr' hK hl h hk fun b p1 p2 F' H' hk' h' => ⟨b, rfl, q b (p1, p2) F' H' hk' h'⟩)
end
/-! ### all, any of a list of bools -/
theorem RepAll.bools {K : Fg} {F : Hp} : ∀ {vs : List V} {ns : List Bool}, RepAll K F vs (ns.map eB.enc) → vs = ns.map V.bl
  | [], [], _ => rfl
  | [], _ :: _, h => by cases h
  | _ :: _, [], h => by cases h
  | v :: vs, n :: ns, h => by
    cases h with
    | cons h1 h2 =>
      have h1' : Rep K F v (.bool n) := h1
      cases h1'
      rw [RepAll.bools h2]; rfl
section
variable {g : τ → List Bool}
theorem lx_all (hc : X.calm = true) (hv : LVw S (it eB) g) (hm : X.mg "all" = none) (ha : LO X G env a S e' f) (hG : ∀ p, G (e' p)) (hg : Gl X "all" := by rfl) (he : starEach (a :: []) X.env = (false, eval a X.env) :: starEach [] X.env := by rfl) (hpl : (backTo pos (starEach [] X.env)).any (·.1) = false := by rfl) :
    LX X env (.Call (.Name "all" np) [a] [] pos) (it eB) e' (fun k => f fun x p => k ((g x).all id) p) :=
  lx_b1t (E := eB) (g := fun x : τ => (g x).all id) (cr_all hc) hm (by decide +kernel) ha hG (fun K F H fp v x Q hK s r q => by
    obtain ⟨p, vs, fps, rfl, h1, h2⟩ := hv.view s r
    have := h2.zero.2.bools
    subst this
    exact ⟨p, g x, rfl, by rw [← hK]; exact h1, q _ (.bl _)⟩) hg (by decide) (by decide) he hpl
theorem lx_any (hc : X.calm = true) (hv : LVw S (it eB) g) (hm : X.mg "any" = none) (ha : LO X G env a S e' f) (hG : ∀ p, G (e' p)) (hg : Gl X "any" := by rfl) (he : starEach (a :: []) X.env = (false, eval a X.env) :: starEach [] X.env := by rfl) (hpl : (backTo pos (starEach [] X.env)).any (·.1) = false := by rfl) :
    LX X env (.Call (.Name "any" np) [a] [] pos) (it eB) e' (fun k => f fun x p => k ((g x).any id) p) :=
  lx_b1t (E := eB) (g := fun x : τ => (g x).any id) (cr_any hc) hm (by decide +kernel) ha hG (fun K F H fp v x Q hK s r q => by
    obtain ⟨p, vs, fps, rfl, h1, h2⟩ := hv.view s r
    have := h2.zero.2.bools
    subst this
    exact ⟨p, g x, rfl, by rw [← hK]; exact h1, q _ (.bl _)⟩) hg (by decide) (by decide) he hpl
end
/-- isinstance(a, tuple) of data: a tuple is wanted -/
def isTupD : PyData → Bool
  | .tuple _ => true
  | _ => false
theorem lx_isD {f : (PyData → P → Option Ω) → Option Ω} (hm1 : X.mg "isinstance" = none) (hm2 : X.mg "tuple" = none) (ha : LX X env a (it eD) e' f) (hg1 : Gl X "isinstance" := by rfl) (hg2 : Gl X "tuple" := by rfl)
    (hs : starEach [a, .Name "tuple" tp] X.env = (false, eval a X.env) :: starEach [.Name "tuple" tp] X.env := by rfl) (hs2 : starEach [.Name "tuple" tp] X.env = (false, eval (.Name "tuple" tp) X.env) :: starEach [] X.env := by rfl) (hpl : (backTo pos (starEach [.Name "tuple" tp] X.env)).any (·.1) = false := by rfl) :
    LX X env (.Call (.Name "isinstance" np) [a, .Name "tuple" tp] [] pos) (it eB) e' (fun k => f fun x p => ck (isTupD x) (k true p)) :=
  fun C F H σs es σ k ω Q hK hl h hk q => tE.of X (pe_callB call_isi hg1 hm1 (by rfl) (pa_cons (peC X) (pa_cons (pe_bltn (v := .ty "tuple") (u := .type "tuple") hg2 hm2 (by rfl) rfl) pa_nil hs2) hs) (by decide) (by decide) hs hpl) (ha C F H σs es σ _ ω _ hK hl h hk fun x p v F' H' hk' h' => by
    obtain ⟨ht, hk2⟩ := ck_some hk'
    obtain ⟨v', fp, e1, _, r⟩ := h'.look (i := 0) rfl
    simp at e1; subst e1
    have r' : Rep C.K F' v x := r
    cases r' with
    | tup h1 h2 => exact ⟨_, _, _, _, true, rfl, .ty "tuple", sqT_ty (by rw [← hK]; exact same_sqT h'.sF h1), by unfold PySem.W.kitOne; rw [if_pos (by decide)], q true p (.bl true) F' H' hk2 (h'.pop.pushSh (.bl true))⟩
    | _ => cases ht)
/-! ### parts of tuples -/
structure CutP (E : Enc τ) (lo hi : Option Int) (E' : Enc α) (g : τ → α) : Prop where
  is : ∀ x, ∃ ds, E.enc x = .tuple ds ∧ E'.enc (g x) = .tuple (cutL ds lo hi)
theorem RepAll.cutD {K : Fg} {F : Hp} {vs : List V} {ds : List PyData} (lo hi : Option Int) (h : RepAll K F vs ds) : RepAll K F (cutV vs lo hi) (cutL ds lo hi) := by
  have hl := h.length
  unfold cutV cutL
  rw [hl]
  exact (h.drop _).take _
theorem cut_run {lo hi : Option Int} {E' : Enc α} {g : τ → α} (hp : CutP E lo hi E' g) {C : Ck} {F H : Hp} {σ : List (Option V)} {en : Env} {x : τ} {v : V} {Q : VK} (h : ER C F H σ en) (r : Rep C.K F v (E.enc x)) (q : ∀ u F' H', ER C F' H' (some u :: σ) (.st none α (it E') (g x) :: en) → Q u H') : rSlA C.K v lo hi H Q := by
  obtain ⟨ds, e1, e2⟩ := hp.is x
  rw [e1] at r
  obtain ⟨p, vs, rfl, h1, h2⟩ := r.tup_inv
  have hl := h2.length
  refine ⟨p, vs, rfl, same_sqT h.sF h1, fun hw => ?_, fun hw t nt => ?_⟩
  · refine q _ F H (h.pushSh ?_)
    have : cutL ds lo hi = ds := by
      unfold cutL
      rw [← hl, hw.1, hw.2, hl]; simp
    rw [e2, this]
    exact .tup h1 h2
  · refine q (.ref t) (upd F t (.tup (cutV vs lo hi))) _ ((h.newF nt).pushSh ?_)
    rw [e2]
    exact .tup (SqT.of upd_same) ((h2.cutD lo hi).mono (same_new (h.fnone nt)))
theorem lx_cutL {n : Int} {E' : Enc α} {g : τ → α} {f : (τ → P → Option Ω) → Option Ω} {j : Nat} {cp p2 : Pos} (hp : CutP E (some n) none E' g) (ha : LX X env a (it E) e' f) :
    LX X env (.Subscript a (.Slice (some (.Constant (.int n) j cp)) none none p2) pos) (it E') e' (fun k => f fun x p => k (g x) p) :=
  fun C F H σs es σ k ω Q hK hl h hk q => tE.of X (pe_slice sl_tupA (peC X) (po_some pe_int) po_none) (ha C F H σs es σ _ ω _ hK hl h hk fun x p v F' H' hk' h' => by
    obtain ⟨v', fp, e1, _, r⟩ := h'.look (i := 0) rfl
    simp at e1; subst e1
    exact ⟨n, rfl, by rw [← hK]; exact cut_run hp h'.pop r fun u F2 H2 h2 => q _ p u F2 H2 hk' h2⟩)
theorem lx_cutR {n : Int} {E' : Enc α} {g : τ → α} {f : (τ → P → Option Ω) → Option Ω} {j : Nat} {cp p2 : Pos} (hp : CutP E none (some n) E' g) (ha : LX X env a (it E) e' f) :
    LX X env (.Subscript a (.Slice none (some (.Constant (.int n) j cp)) none p2) pos) (it E') e' (fun k => f fun x p => k (g x) p) :=
  fun C F H σs es σ k ω Q hK hl h hk q => tE.of X (pe_slice sl_tupA (peC X) po_none (po_some pe_int)) (ha C F H σs es σ _ ω _ hK hl h hk fun x p v F' H' hk' h' => by
    obtain ⟨v', fp, e1, _, r⟩ := h'.look (i := 0) rfl
    simp at e1; subst e1
    exact ⟨n, rfl, by rw [← hK]; exact cut_run hp h'.pop r fun u F2 H2 h2 => q _ p u F2 H2 hk' h2⟩)
/-- tuples one behind the other -/
structure CatP (E1 : Enc τ1) (E2 : Enc τ2) (E3 : Enc τ3) (g : τ1 → τ2 → τ3) : Prop where
  is : ∀ x y, ∃ ds es, E1.enc x = .tuple ds ∧ E2.enc y = .tuple es ∧ E3.enc (g x y) = .tuple (ds ++ es) ∧ ds.length + es.length ≤ 1000
theorem lx_catT {fa : (τ1 → P1 → Option Ω) → Option Ω} {fb : P1 → (τ2 → P2 → Option Ω) → Option Ω} {g : τ1 → τ2 → τ3} (hp : CatP E1 E2 E3 g) (ha : LX X env a (it E1) e1 fa) (hb : ∀ p1, LX X (e1 p1) b (it E2) (e2 p1) (fb p1)) :
    LX X env (.BinOp a .Add b pos) (it E3) (fun p : P1 × P2 => e2 p.1 p.2) (fun k => fa fun x p1 => fb p1 fun y p2 => k (g x y) (p1, p2)) :=
  fun C F H σs es σ k ω Q hK hl h hk q => tE.of X (pe_op op_catA (peC X) (peC X)) (op2_run (lo_of ha) (fun p1 => lo_of (hb p1)) (fun _ _ => trivial) (fun _ _ => trivial) hK hl h hk
    fun x p1 y p2 v u F' H' fp fq hk' h' r1 r2 => by
      obtain ⟨_, r1⟩ := r1
      obtain ⟨_, r2⟩ := r2
      obtain ⟨ds, ts, e1, e2, e3, hz⟩ := hp.is x y
      rw [e1] at r1
      rw [e2] at r2
      obtain ⟨p, vs, rfl, h1, h2⟩ := r1.tup_inv
      obtain ⟨p', us, rfl, h3, h4⟩ := r2.tup_inv
      have l1 := h2.length
      have l2 := h4.length
      refine ⟨p, p', vs, us, rfl, rfl, by rw [← hK]; exact same_sqT h'.sF h1, by rw [← hK]; exact same_sqT h'.sF h3, Nat.le_of_lt (small1000 (by omega)), fun z => ?_, fun z y0 => ?_, fun z y0 t nt => ?_⟩
      · subst z
        have : ds = [] := List.eq_nil_of_length_eq_zero (by simpa using l1.symm)
        subst this
        refine q (g x y) (p1, p2) _ F' H' hk' (h'.pushSh ?_)
        rw [e3]; exact .tup h3 h4
      · subst y0
        have : ts = [] := List.eq_nil_of_length_eq_zero (by simpa using l2.symm)
        subst this
        refine q (g x y) (p1, p2) _ F' H' hk' (h'.pushSh ?_)
        rw [e3, List.append_nil]; exact .tup h1 h2
      · refine q (g x y) (p1, p2) (.ref t) (upd F' t (.tup (vs ++ us))) _ hk' ((h'.newF nt).pushSh ?_)
        rw [e3]
        exact .tup (SqT.of upd_same) ((h2.app h4).mono (same_new (h'.fnone nt))))
end
/-! ### a if c else b as a test -/
theorem pt_ifT {X : Cx} {c a b : Expr} {pos : Pos} {tc ta tb : TT} (hc : PT X c tc) (ha : PT X a ta) (hb : PT X b tb) : PT X (.IfExp c a b pos) (fun σ H Q => tc σ H fun k H1 => if k = true then ta σ H1 Q else tb σ H1 Q) := by
  refine ⟨fun pins s σ H Q I h => ?_⟩
  rw [PySem.arm_isTrue_IfExp]
  refine wpAny_bind (thn (hc.run pins s σ H _ I h) fun k s1 ⟨H1, I1, q1⟩ => ?_)
  cases k with
  | true => rw [if_pos rfl] at q1 ⊢; exact ha.run pins s1 σ H1 Q I1 q1
  | false => rw [if_neg Bool.false_ne_true] at q1 ⊢; exact hb.run pins s1 σ H1 Q I1 q1
theorem lt_if {X : Cx} {Ω : Type} {env : Env} {c a b : Expr} {pos : Pos} {P1 P2 P3 : Type} {e1 : P1 → Env} {e2 : P1 → P2 → Env} {e3 : P1 → P3 → Env} {fc : (Bool → P1 → Option Ω) → Option Ω} {fa : P1 → (Bool → P2 → Option Ω) → Option Ω} {fb : P1 → (Bool → P3 → Option Ω) → Option Ω} (hc : LT X env c e1 fc) (ha : ∀ p1, LT X (e1 p1) a (e2 p1) (fa p1)) (hb : ∀ p1, LT X (e1 p1) b (e3 p1) (fb p1))
    (hs : ∀ p1 p2, Sub (e2 p1 p2) (e1 p1)) (hs3 : ∀ p1 p3, Sub (e3 p1 p3) (e1 p1)) :
    LT X env (.IfExp c a b pos) e1 (fun k => fc fun x p1 => if x = true then fa p1 fun y _ => k y p1 else fb p1 fun y _ => k y p1) :=
  fun C F H σs es σ k ω Q hK hl hr hk q => tT.of X (pt_ifT (ptC X) (ptC X) (ptC X)) (hc C F H σs es σ _ ω _ hK hl hr hk fun x p1 F' H' hk' h' => by
    cases x with
    | true => rw [if_pos rfl] at hk' ⊢; exact ha p1 C F' H' σs es σ _ ω Q hK hl h' hk' fun y p2 F2 H2 hk2 h2 => q y p1 F2 H2 hk2 (h2.sub ((hs p1 p2).pre es))
    | false => rw [if_neg Bool.false_ne_true] at hk' ⊢; exact hb p1 C F' H' σs es σ _ ω Q hK hl h' hk' fun y p2 F2 H2 hk2 h2 => q y p1 F2 H2 hk2 (h2.sub ((hs3 p1 p2).pre es)))
/-! ### x, y, z = a, b, c -/
section
variable {X : Cx} {R I Ω J : Type} {SR : Stor R} {envR : I → Env} {kr : R → I → Option Ω} {bk ct : Lp Ω} {env : Env} {rest : List Stmt} {envJ : J → Env} {nm nm2 nm3 : Str} {pos : Pos} {a b c : Expr} {P : Type} {e' : P → Env}
theorem lb_par3 {τ1 τ2 τ3 : Type} {S1 : Stor τ1} {S2 : Stor τ2} {S3 : Stor τ3} {f : ((τ1 × τ2 × τ3 × Unit) → P → Option Ω) → Option Ω} {fr : τ1 → τ2 → τ3 → P → (J → Option Ω) → Option Ω} {px py pz pt : Pos} {kt k2 : Nat} {pt2 : Pos} (i j l : Nat) (hN : X.N.Nodup) (hc : X.calm = true) (ha : LA X env [a, b, c] (fun p : τ1 × τ2 × τ3 × Unit => [.st none τ1 S1 p.1, .st none τ2 S2 p.2.1, .st none τ3 S3 p.2.2.1]) e' f)
    (hr : ∀ x y z p, LB X SR envR kr bk ct ((((e' p).set i (.st none τ1 S1 x)).set j (.st none τ2 S2 y)).set l (.st none τ3 S3 z)) rest envJ (fr x y z p))
    (hi : X.N[i]? = some nm := by rfl) (hj : X.N[j]? = some nm2 := by rfl) (hl3 : X.N[l]? = some nm3 := by rfl) (hij : i ≠ j := by decide) (hil : i ≠ l := by decide) (hjl : j ≠ l := by decide) (hx : X.env.scope.names.lookup nm = some .local := by rfl) (hy : X.env.scope.names.lookup nm2 = some .local := by rfl) (hz : X.env.scope.names.lookup nm3 = some .local := by rfl)
    (hli : ∀ p, i < (e' p).length := by exact (fun _ => Nat.lt_of_sub_eq_succ rfl)) (hlj : ∀ p, j < (e' p).length := by exact (fun _ => Nat.lt_of_sub_eq_succ rfl)) (hll : ∀ p, l < (e' p).length := by exact (fun _ => Nat.lt_of_sub_eq_succ rfl))
    (hw : swappedStores [.Tuple [.Name nm px, .Name nm2 py, .Name nm3 pz] kt pt] (.Tuple [a, b, c] k2 pt2) X.env = pure (some [nm, nm2, nm3]) := by rfl)
    (hs : swapsWithSole [.Tuple [.Name nm px, .Name nm2 py, .Name nm3 pz] kt pt] (.Tuple [a, b, c] k2 pt2) pos.line X.env = pure false := by rfl) :
    LB X SR envR kr bk ct env (.Assign [.Tuple [.Name nm px, .Name nm2 py, .Name nm3 pz] kt pt] (.Tuple [a, b, c] k2 pt2) pos :: rest) envJ (fun kn => f fun r p => fr r.1 r.2.1 r.2.2.1 p kn) :=
  fun C F H σs es σ kn ω D hK hl h hk qn qb qc qr => tSs.of X (pss_cons (ps_par3 hc hN hi hj hl3 hij hil hjl hx hy hz (paC X) hw hs) (pssC X)) (ha C F H σs es σ _ ω _ hK hl h hk fun r p vs F' H' hk' hv h' => by
    match vs, hv with
    | [v, u, t], _ =>
      refine ⟨v, u, t, rfl, ?_⟩
      have h2 := ER.asg (σs := some u :: some t :: σs) (es := .st none τ2 S2 r.2.1 :: .st none τ3 S3 r.2.2.1 :: es) (σ := σ) (env := e' p) h' (by simp [hl]) (hli p)
      have h3 := ER.asg (σs := some t :: σs) (es := .st none τ3 S3 r.2.2.1 :: es) (σ := σ.set i (some v)) h2 (by simp [hl]) (by simpa using hlj p)
      have h4 := ER.asg (σs := σs) (es := es) (σ := (σ.set i (some v)).set j (some u)) h3 hl (by simpa using hll p)
      exact hr r.1 r.2.1 r.2.2.1 p C F' H' σs es _ kn ω D hK hl h4 hk' qn qb qc qr)
end
/-! ### what can be shown -/
structure Sh (k m : Nat) (d : PyData) : Prop where
  lay : d.canLay0 = true
  sho : d.showable = true
  lea : d.leavesShort 13 = true
  blk : d.bulk ≤ m
  dep : d.depth ≤ k
theorem Sh.mono {k m k' m' : Nat} {d : PyData} (h : Sh k m d) (hk : k ≤ k') (hm : m ≤ m') : Sh k' m' d := ⟨h.lay, h.sho, h.lea, Nat.le_trans h.blk hm, Nat.le_trans h.dep hk⟩
theorem Sh.ok {k m : Nat} {d : PyData} (h : Sh k m d) (hk : k ≤ 60) (hm : m ≤ 1000000) : showOk d = true := by
  have d3 : d.shown.length ≤ sizeLine := PyData.shown_fits_bulk (B := 13) (by decide) (by decide) h.lea (by
    have := h.blk
    have : (1000000 : Nat) ≤ 2 ^ 20 := by decide
    omega)
  unfold showOk
  rw [h.lay, h.sho, decide_eq_true (Nat.le_trans h.dep hk), decide_eq_true d3]; rfl
theorem Sh.repr {k m : Nat} {d : PyData} (h : Sh k m d) (hk : k ≤ 60 := by decide) (hm : m ≤ 1000000 := by decide) : reprO d = some d.shown := if_pos (h.ok hk hm)
theorem shI {i : Int} (h : i.natAbs < 10 ^ 12) : Sh 0 0 (.int i) := ⟨rfl, by
  simp only [PyData.showable, decide_eq_true_eq]
  by_cases z : i.natAbs = 0
  · rw [z]; decide
  · exact (Nat.log2_lt z).2 (Nat.lt_of_lt_of_le h (by decide +kernel)), by simp only [PyData.leavesShort, decide_eq_true_eq]; exact PyData.shown_int_le h, Nat.le_refl _, Nat.le_refl _⟩
theorem shN : Sh 0 0 .none := ⟨rfl, rfl, rfl, Nat.le_refl _, Nat.le_refl _⟩
theorem shB {b : Bool} : Sh 0 0 (.bool b) := ⟨rfl, rfl, rfl, Nat.le_refl _, Nat.le_refl _⟩
theorem shS {s : Str} (h1 : PyData.strOk s = true) (h2 : (s.cps.toList.all fun c => decide (c < 16 ^ 8)) = true) (h3 : s.cps.size ≤ m) : Sh 0 m (.str s) := ⟨by rw [PyData.canLay0]; exact h1, rfl, by rw [PyData.leavesShort]; exact h2, by rw [PyData.bulk]; exact h3, Nat.le_refl _⟩
theorem sh_all {k m : Nat} : ∀ (ds : List PyData), (∀ d ∈ ds, Sh k m d) → PyData.canLayAll0 ds = true ∧ PyData.showableAll ds = true ∧ PyData.leavesShortAll 13 ds = true ∧ PyData.bulkAll ds ≤ ds.length * (m + 1) ∧ PyData.depthAll ds ≤ k
  | [], _ => ⟨rfl, rfl, rfl, by simp [PyData.bulkAll], by simp [PyData.depthAll]⟩
  | d :: ds, h => by
    obtain ⟨a, b, c, e, f⟩ := sh_all ds fun x hx => h x (List.mem_cons_of_mem _ hx)
    obtain ⟨a', b', c', e', f'⟩ := h d (List.mem_cons_self ..)
    refine ⟨by rw [PyData.canLayAll0, a', a]; rfl, by rw [PyData.showableAll, b', b]; rfl, by rw [PyData.leavesShortAll, c', c]; rfl, ?_, ?_⟩
    · rw [PyData.bulkAll, List.length_cons, Nat.succ_mul]; omega
    · rw [PyData.depthAll]; omega
theorem shL {k m n : Nat} {ds : List PyData} (h : ∀ d ∈ ds, Sh k m d) (hn : ds.length ≤ n) : Sh (k + 1) (n * (m + 1)) (.list ds) := by
  obtain ⟨a, b, c, e, f⟩ := sh_all ds h
  exact ⟨by rw [PyData.canLay0]; exact a, by rw [PyData.showable]; exact b, by rw [PyData.leavesShort]; exact c, by rw [PyData.bulk]; exact Nat.le_trans e (Nat.mul_le_mul_right _ hn), by rw [PyData.depth]; omega⟩
theorem shV {k m n : Nat} {ds : List PyData} (h : ∀ d ∈ ds, Sh k m d) (hn : ds.length ≤ n) : Sh (k + 1) (n * (m + 1)) (.tuple ds) := by
  obtain ⟨a, b, c, e, f⟩ := sh_all ds h
  exact ⟨by rw [PyData.canLay0]; exact a, by rw [PyData.showable]; exact b, by rw [PyData.leavesShort]; exact c, by rw [PyData.bulk]; exact Nat.le_trans e (Nat.mul_le_mul_right _ hn), by rw [PyData.depth]; omega⟩
/-- tuples by their parts -/
structure ShP (k m : Nat) (ds : List PyData) : Prop where
  lay : PyData.canLayAll0 ds = true
  sho : PyData.showableAll ds = true
  lea : PyData.leavesShortAll 13 ds = true
  blk : PyData.bulkAll ds ≤ m
  dep : PyData.depthAll ds ≤ k
theorem shp0 : ShP 0 0 [] := ⟨rfl, rfl, rfl, by simp [PyData.bulkAll], by simp [PyData.depthAll]⟩
theorem shpC {k m k' m' : Nat} {d : PyData} {ds : List PyData} (h : Sh k m d) (r : ShP k' m' ds) : ShP (max k k') (m + 1 + m') (d :: ds) := ⟨by rw [PyData.canLayAll0, h.lay, r.lay]; rfl, by rw [PyData.showableAll, h.sho, r.sho]; rfl, by rw [PyData.leavesShortAll, h.lea, r.lea]; rfl, by
  have := h.blk; have := r.blk
  rw [PyData.bulkAll]; omega, by
  have := h.dep; have := r.dep
  rw [PyData.depthAll]; omega⟩
theorem shT {k m : Nat} {ds : List PyData} (r : ShP k m ds) : Sh (k + 1) m (.tuple ds) := ⟨by rw [PyData.canLay0]; exact r.lay, by rw [PyData.showable]; exact r.sho, by rw [PyData.leavesShort]; exact r.lea, by rw [PyData.bulk]; exact r.blk, by rw [PyData.depth]; have := r.dep; omega⟩
theorem shTL {k m : Nat} {ds : List PyData} (r : ShP k m ds) : Sh (k + 1) m (.list ds) := ⟨by rw [PyData.canLay0]; exact r.lay, by rw [PyData.showable]; exact r.sho, by rw [PyData.leavesShort]; exact r.lea, by rw [PyData.bulk]; exact r.blk, by rw [PyData.depth]; have := r.dep; omega⟩
theorem Sh.shaped {k m : Nat} {d : PyData} (h : Sh k m d) (hk : k ≤ 64 := by decide) : SeqAt.shaped d = true := shaped_of h.lay (Nat.le_trans h.dep hk)
theorem Sh.refl {k m : Nat} {d : PyData} (h : Sh k m d) : PyData.eqv d d = true := PySem.SeqAt.eqv_refl d h.lay
end Z

set_option Elab.async false
set_option linter.all false
set_option maxRecDepth 100000
namespace Z
open PySem PySem.Spec PyProof.Rows L2
/-! ### plain lemmas for many laws -/
theorem asc_iff : ∀ (es : List Int), es.Pairwise (· < ·) ↔ ∀ i (h : i + 1 < es.length), es[i] < es[i+1]
  | [] => by simp
  | [a] => by simp
  | a :: b :: es => by
    rw [List.pairwise_cons, asc_iff (b :: es)]
    constructor
    · rintro ⟨h1, h2⟩ i hi
      cases i with
      | zero => exact h1 b (List.mem_cons_self ..)
      | succ i => exact h2 i (by simpa using hi)
    · intro h
      have h2 : ∀ i (hi : i + 1 < (b :: es).length), (b :: es)[i] < (b :: es)[i+1] := fun i hi => h (i + 1) (by simpa using hi)
      refine ⟨fun c hc => ?_, h2⟩
      have hab : a < b := h 0 (by simp)
      rcases List.mem_cons.1 hc with rfl | hc
      · exact hab
      · have := (List.pairwise_cons.1 ((asc_iff (b :: es)).2 h2)).1 c hc
        omega
section
variable {α β S Ω : Type}
theorem rangeL_cons' {lo hi : Int} (h : lo < hi) : rangeL lo hi = lo :: rangeL (lo + 1) hi := by
  unfold rangeL
  have e : (hi - lo).toNat = (hi - (lo + 1)).toNat + 1 := by omega
  rw [e, List.range_succ_eq_map, List.map_cons, List.map_map]
  congr 1
  · simp
  · apply List.map_congr_left; intro i _; simp only [Function.comp]; omega
theorem rangeL_nil {lo hi : Int} (h : hi ≤ lo) : rangeL lo hi = [] := by
  unfold rangeL
  rw [show (hi - lo).toNat = 0 by omega]; rfl
theorem mem_rng {lo hi x : Int} : x ∈ rangeL lo hi ↔ lo ≤ x ∧ x < hi := by
  unfold rangeL
  simp only [List.mem_map, List.mem_range]
  constructor
  · rintro ⟨i, hi, rfl⟩; omega
  · rintro ⟨a, b⟩; exact ⟨(x - lo).toNat, by omega, by omega⟩
theorem rng_len {lo hi : Int} : (rangeL lo hi).length = (hi - lo).toNat := by simp [rangeL]
theorem rgOk_s {lo hi : Int} (h1 : -1000000000 ≤ lo) (h2 : lo ≤ 1000000000) (h3 : -1000000000 ≤ hi) (h4 : hi ≤ 1000000000) : rgOk lo hi = true := decide_eq_true ⟨by omega, by omega, by omega, by omega⟩
theorem atI_some {xs : List α} {i : Int} (h0 : 0 ≤ i) (h1 : i < xs.length) : atI xs i = some (xs[i.toNat]'(by omega)) := by
  obtain ⟨k, hk, rfl, e⟩ := atI_pos (xs := xs) h0 h1
  rw [e]; simp
theorem atI_neg {xs : List α} (h : xs ≠ []) : atI xs (-(1 : Int)) = some (xs.getLast h) := by
  have hl : 0 < xs.length := List.length_pos_iff.2 h
  unfold atI ixN
  rw [if_neg (by decide), if_pos (by omega)]
  show xs[_]? = _
  rw [List.getLast_eq_getElem, show (-(1 : Int) + (xs.length : Int)).toNat = xs.length - 1 by omega, List.getElem?_eq_getElem]
theorem forO_congr {b b' : α → S → (S → Option Ω) → Option Ω} {k : S → Option Ω} : ∀ (xs : List α) (s : S), (∀ x ∈ xs, ∀ s kc, b x s kc = b' x s kc) → forO xs s b k = forO xs s b' k
  | [], _, _ => rfl
  | x :: xs, s, h => by
    show b x s _ = b' x s _
    rw [h x (List.mem_cons_self ..)]
    congr 1
    funext s'
    exact forO_congr xs s' fun y m => h y (List.mem_cons_of_mem _ m)
theorem compO_congr {b b' : α → S → (Option β → S → Option Ω) → Option Ω} {k : List β → S → Option Ω} : ∀ (xs : List α) (s : S) (acc : List β), (∀ x ∈ xs, ∀ s kc, b x s kc = b' x s kc) → compO xs s b acc k = compO xs s b' acc k
  | [], _, _, _ => rfl
  | x :: xs, s, acc, h => by
    show b x s _ = b' x s _
    rw [h x (List.mem_cons_self ..)]
    congr 1
    funext y s'
    cases y with
    | none => exact compO_congr xs s' acc fun y m => h y (List.mem_cons_of_mem _ m)
    | some y => show ck _ _ = ck _ _; rw [compO_congr xs s' _ fun y m => h y (List.mem_cons_of_mem _ m)]
/-- a walk over the places of a list is a walk over its members -/
theorem forO_ix {xs : List α} {b : Int → S → (S → Option Ω) → Option Ω} {b' : α → S → (S → Option Ω) → Option Ω} {k : S → Option Ω} {s : S} (h : ∀ i (hi : i < xs.length) s kc, b (i : Int) s kc = b' xs[i] s kc) : forO (rangeL 0 (xs.length : Int)) s b k = forO xs s b' k := by
  suffices ∀ (ys : List α) (n : Nat), (∀ i (hi : i < ys.length) s kc, b ((n + i : Nat) : Int) s kc = b' ys[i] s kc) → ∀ s, forO (rangeL (n : Int) ((n + ys.length : Nat) : Int)) s b k = forO ys s b' k by
    have := this xs 0 (fun i hi s kc => by rw [Nat.zero_add]; exact h i hi s kc) s
    simpa using this
  intro ys
  induction ys with
  | nil => intro n _ s; rw [rangeL_nil (by simp)]; rfl
  | cons y ys ih =>
    intro n h s
    rw [rangeL_cons' (by simp only [List.length_cons]; omega)]
    show b (n : Int) s _ = b' y s _
    rw [show (n : Int) = ((n + 0 : Nat) : Int) by omega, h 0 (by simp) s]
    congr 1
    funext s'
    have := ih (n + 1) (fun i hi s kc => by
      have := h (i + 1) (by simpa using hi) s kc
      rw [show n + 1 + i = n + (i + 1) by omega]; simpa using this) s'
    rw [← this, show ((n + 0 : Nat) : Int) + 1 = ((n + 1 : Nat) : Int) by omega, show ((n + (y :: ys).length : Nat) : Int) = ((n + 1 + ys.length : Nat) : Int) by simp only [List.length_cons]; omega]
theorem compO_ix {xs : List α} {b : Int → S → (Option β → S → Option Ω) → Option Ω} {b' : α → S → (Option β → S → Option Ω) → Option Ω} {k : List β → S → Option Ω} {s : S} {acc : List β} (h : ∀ i (hi : i < xs.length) s kc, b (i : Int) s kc = b' xs[i] s kc) : compO (rangeL 0 (xs.length : Int)) s b acc k = compO xs s b' acc k := by
  suffices ∀ (ys : List α) (n : Nat), (∀ i (hi : i < ys.length) s kc, b ((n + i : Nat) : Int) s kc = b' ys[i] s kc) → ∀ s acc, compO (rangeL (n : Int) ((n + ys.length : Nat) : Int)) s b acc k = compO ys s b' acc k by
    have := this xs 0 (fun i hi s kc => by rw [Nat.zero_add]; exact h i hi s kc) s acc
    simpa using this
  intro ys
  induction ys with
  | nil => intro n _ s acc; rw [rangeL_nil (by simp)]; rfl
  | cons y ys ih =>
    intro n h s acc
    rw [rangeL_cons' (by simp only [List.length_cons]; omega)]
    show b (n : Int) s _ = b' y s _
    rw [show (n : Int) = ((n + 0 : Nat) : Int) by omega, h 0 (by simp) s]
    congr 1
    funext z s'
    have e := fun acc => ih (n + 1) (fun i hi s kc => by
      have := h (i + 1) (by simpa using hi) s kc
      rw [show n + 1 + i = n + (i + 1) by omega]; simpa using this) s' acc
    have er : rangeL ((n + 0 : Nat) + 1 : Int) ((n + (y :: ys).length : Nat) : Int) = rangeL ((n + 1 : Nat) : Int) ((n + 1 + ys.length : Nat) : Int) := by
      rw [show ((n + 0 : Nat) : Int) + 1 = ((n + 1 : Nat) : Int) by omega, show ((n + (y :: ys).length : Nat) : Int) = ((n + 1 + ys.length : Nat) : Int) by simp only [List.length_cons]; omega]
    rw [er]
    cases z with
    | none => exact e acc
    | some z => show ck _ _ = ck _ _; rw [e]
theorem enumL_cons (x : α) (xs : List α) : enumL (x :: xs) = (0, x) :: (enumL xs).map fun p => (p.1 + 1, p.2) := by
  unfold enumL
  rw [List.zipIdx_cons]
  simp [List.zipIdx_succ, List.map_map, Function.comp]
theorem enumL_len (xs : List α) : (enumL xs).length = xs.length := by simp [enumL]
theorem mem_enumL {xs : List α} {p : Int × α} : p ∈ enumL xs ↔ ∃ i : Nat, p.1 = i ∧ xs[i]? = some p.2 := by
  unfold enumL
  simp only [List.mem_map, List.mem_zipIdx_iff_getElem?]
  constructor
  · rintro ⟨q, h, rfl⟩; exact ⟨q.2, rfl, h⟩
  · rintro ⟨i, h1, h2⟩; exact ⟨(p.2, i), h2, by rw [← h1]⟩
/-- a list of `rising` tests -/
theorem rise_ok {es : List Int} (hl : es.length ≤ 1000000) : ∃ bs : List Bool, bs.all id = decide (es.Pairwise (· < ·)) ∧ ∀ k : List Bool → Unit → Option Ω,
    compO (rangeL 0 ((es.length : Int) - 1)) () (fun x (_ : Unit) kc => (atI es x).bind fun y => (atI es (x + 1)).bind fun z => kc (some (decide (y < z))) ()) [] k = k bs () := by
  refine ⟨(rangeL 0 ((es.length : Int) - 1)).map fun i => decide (es.getD i.toNat 0 < es.getD (i.toNat + 1) 0), ?_, fun k => ?_⟩
  · rw [Bool.eq_iff_iff, List.all_eq_true, decide_eq_true_eq, asc_iff]
    simp only [List.mem_map, mem_rng, id]
    constructor
    · intro h i hi
      have := h _ ⟨(i : Int), ⟨by omega, by omega⟩, rfl⟩
      rw [decide_eq_true_eq] at this
      simpa [List.getD_eq_getElem?_getD, List.getElem?_eq_getElem hi, List.getElem?_eq_getElem (show i < es.length by omega)] using this
    · rintro h _ ⟨i, ⟨h0, h1⟩, rfl⟩
      have := h i.toNat (by omega)
      rw [decide_eq_true_eq]
      simpa [List.getD_eq_getElem?_getD, List.getElem?_eq_getElem (show i.toNat + 1 < es.length by omega), List.getElem?_eq_getElem (show i.toNat < es.length by omega)] using this
  · refine (compO_map (fun i : Int => decide (es.getD i.toNat 0 < es.getD (i.toNat + 1) 0)) () _ [] (by rw [rng_len]; show _ ≤ 16777216; simp only [List.length_nil]; omega) fun x mx kc => ?_).trans (by rw [List.nil_append])
    obtain ⟨h0, h1⟩ := mem_rng.1 mx
    rw [atI_some h0 (by omega), Option.bind_some, atI_some (by omega) (by omega), Option.bind_some]
    simp only [List.getD_eq_getElem?_getD, List.getElem?_eq_getElem (show x.toNat < es.length by omega), List.getElem?_eq_getElem (show x.toNat + 1 < es.length by omega), Option.getD_some, show (x + 1).toNat = x.toNat + 1 by omega]
theorem usort_eq_iff {es : List Int} : es = usort es ↔ es.Pairwise (· < ·) := ⟨fun e => by rw [e]; exact usort_pw es, fun p => usort_is p fun _ => Iff.rfl⟩
theorem usort_len (xs : List Int) : (usort xs).length ≤ xs.length := by
  induction xs with
  | nil => simp [usort]
  | cons x xs ih =>
    simp only [usort]
    split
    · simp; omega
    · have : ((usort xs).filter (· < x)).length + ((usort xs).filter (x < ·)).length ≤ (usort xs).length := by
        generalize usort xs = ys
        clear ih
        induction ys with
        | nil => simp
        | cons y ys ih =>
          simp only [List.filter_cons, List.length_cons]
          by_cases c : y < x
          · have d : ¬ x < y := by omega
            simp [c, d]; omega
          · by_cases d : x < y
            · simp [c, d]; omega
            · simp [c, d]; omega
      simp; omega
/-! ### all sets, one after the other -/
def subs (xs : List α) : List (List α) := xs.foldl (fun s k => s ++ s.map (· ++ [k])) [[]]
theorem subs_mem' : ∀ (xs : List α) (acc : List (List α)) (row : List α), row ∈ xs.foldl (fun s k => s ++ s.map (· ++ [k])) acc ↔ ∃ a ∈ acc, ∃ s, List.Sublist s xs ∧ row = a ++ s
  | [], acc, row => by
    constructor
    · intro h; exact ⟨row, h, [], List.Sublist.refl _, by simp⟩
    · rintro ⟨a, ha, s, hs, rfl⟩
      rw [List.sublist_nil.1 hs, List.append_nil]; exact ha
  | x :: xs, acc, row => by
    rw [List.foldl_cons, subs_mem' xs]
    constructor
    · rintro ⟨a, ha, s, hs, rfl⟩
      rcases List.mem_append.1 ha with ha | ha
      · exact ⟨a, ha, s, hs.cons x, rfl⟩
      · obtain ⟨b, hb, rfl⟩ := List.mem_map.1 ha
        exact ⟨b, hb, x :: s, hs.cons_cons x, by simp⟩
    · rintro ⟨a, ha, s, hs, rfl⟩
      cases hs with
      | cons _ h => exact ⟨a, List.mem_append_left _ ha, _, h, rfl⟩
      | cons_cons _ h => exact ⟨a ++ [x], List.mem_append_right _ (List.mem_map.2 ⟨a, ha, rfl⟩), _, h, by simp⟩
theorem mem_subs {xs row : List α} : row ∈ subs xs ↔ List.Sublist row xs := by
  unfold subs
  rw [subs_mem']
  simp
theorem subs_len' : ∀ (xs : List α) (acc : List (List α)), (xs.foldl (fun s k => s ++ s.map (· ++ [k])) acc).length = acc.length * 2 ^ xs.length
  | [], acc => by simp
  | x :: xs, acc => by
    rw [List.foldl_cons, subs_len' xs, List.length_append, List.length_map, List.length_cons, Nat.pow_succ, ← Nat.two_mul, Nat.mul_comm 2, Nat.mul_assoc, Nat.mul_comm 2]
theorem subs_len (xs : List α) : (subs xs).length = 2 ^ xs.length := by
  unfold subs; rw [subs_len']; simp
/-- the walk that builds them -/
theorem sets_walk {k : List (List α) → Option Ω} : ∀ (xs : List α) (acc : List (List α)), (∀ a ∈ acc, a.length + xs.length ≤ 1000) → acc.length * 2 ^ xs.length ≤ 1000000 →
    forO xs acc (fun x t kc => compO t () (fun row (_ : Unit) kc2 => ck (decide (row.length + [x].length ≤ SZ)) (kc2 (some (row ++ [x])) ())) [] fun ys (_ : Unit) => ck (decide (t.length + ys.length ≤ SZ)) (kc (t ++ ys))) k = k (xs.foldl (fun s k => s ++ s.map (· ++ [k])) acc)
  | [], acc, _, _ => rfl
  | x :: xs, acc, h1, h2 => by
    rw [List.length_cons, Nat.pow_succ] at h2
    have hp : 1 ≤ 2 ^ xs.length := Nat.one_le_two_pow
    have hacc : acc.length * 2 ≤ 1000000 := by
      have : acc.length * 2 * 1 ≤ acc.length * 2 * 2 ^ xs.length := Nat.mul_le_mul_left _ hp
      rw [Nat.mul_comm (2 ^ xs.length), ← Nat.mul_assoc] at h2
      omega
    show compO acc () _ [] _ = _
    have hS : (1000000 : Nat) ≤ SZ := by decide
    rw [compO_map (fun row : List α => row ++ [x]) () acc [] (by simp; omega) fun row m kc => by
      have := h1 row m
      simp only [List.length_cons, List.length_nil] at this ⊢
      rw [decide_eq_true (by omega), ck_true], List.nil_append, List.length_map, decide_eq_true (by omega), ck_true]
    refine sets_walk xs _ (fun a ha => ?_) ?_
    · rcases List.mem_append.1 ha with ha | ha
      · have := h1 a ha; simp at this; omega
      · obtain ⟨b, hb, rfl⟩ := List.mem_map.1 ha
        have := h1 b hb; simp at this ⊢; omega
    · rw [List.length_append, List.length_map, ← Nat.two_mul, Nat.mul_comm 2, Nat.mul_assoc, Nat.mul_comm 2]; exact h2
end
/-! ### least, greatest -/
theorem minI_of {l : List Int} {m : Int} (hm : m ∈ l) (h : ∀ y ∈ l, m ≤ y) : minI l = some m := by
  cases l with
  | nil => cases hm
  | cons x xs =>
    show some (xs.foldl min x) = _
    congr 1
    exact (minI_is rfl hm h).symm
theorem maxI_of {l : List Int} {m : Int} (hm : m ∈ l) (h : ∀ y ∈ l, y ≤ m) : maxI l = some m := by
  cases l with
  | nil => cases hm
  | cons x xs =>
    show some (xs.foldl max x) = _
    congr 1
    exact (maxI_is rfl hm h).symm
theorem minI_some {l : List Int} (h : l ≠ []) : ∃ m, minI l = some m ∧ m ∈ l ∧ ∀ y ∈ l, m ≤ y := by
  cases l with
  | nil => exact absurd rfl h
  | cons x xs =>
    refine ⟨xs.foldl min x, rfl, ?_, fun y m => ?_⟩
    · rcases foldl_min_mem xs x with e | e
      · rw [e]; exact List.mem_cons_self ..
      · exact List.mem_cons_of_mem _ e
    · rcases List.mem_cons.1 m with rfl | m
      · exact (foldl_min_le xs y).1
      · exact (foldl_min_le xs x).2 y m
theorem maxI_some {l : List Int} (h : l ≠ []) : ∃ m, maxI l = some m ∧ m ∈ l ∧ ∀ y ∈ l, y ≤ m := by
  cases l with
  | nil => exact absurd rfl h
  | cons x xs =>
    refine ⟨xs.foldl max x, rfl, ?_, fun y m => ?_⟩
    · rcases foldl_max_mem xs x with e | e
      · rw [e]; exact List.mem_cons_self ..
      · exact List.mem_cons_of_mem _ e
    · rcases List.mem_cons.1 m with rfl | m
      · exact (foldl_max_le xs y).1
      · exact (foldl_max_le xs x).2 y m
theorem lpp_tot {x y : Int × Int} (h : lpp x y = false) (g : lpp y x = false) : x = y := by
  rw [lpp_no] at h g
  exact Prod.ext (by omega) (by omega)
theorem minB_some {l : List (Int × Int)} (h : l ≠ []) : ∃ m, minB lpp l = some m ∧ m ∈ l ∧ ∀ y ∈ l, lpp y m = false := by
  suffices ∀ (xs : List (Int × Int)) (x : Int × Int), ∃ m, xs.foldl (fun a y => if lpp y a = true then y else a) x = m ∧ m ∈ x :: xs ∧ ∀ y ∈ x :: xs, lpp y m = false by
    cases l with
    | nil => exact absurd rfl h
    | cons x xs =>
      obtain ⟨m, e, a, b⟩ := this xs x
      exact ⟨m, congrArg some e, a, b⟩
  intro xs
  induction xs with
  | nil => intro x; exact ⟨x, rfl, List.mem_cons_self .., fun y m => by simp at m; subst m; rw [lpp_no]; omega⟩
  | cons z xs ih =>
    intro x
    rw [List.foldl_cons]
    obtain ⟨m, e, a, b⟩ := ih (if lpp z x = true then z else x)
    refine ⟨m, e, ?_, fun y hy => ?_⟩
    · rcases List.mem_cons.1 a with rfl | a
      · split
        · simp
        · simp
      · simp [a]
    · have bx := b _ (List.mem_cons_self ..)
      rcases List.mem_cons.1 hy with rfl | hy
      · by_cases c : lpp z y = true
        · rw [if_pos c] at bx
          rw [lpp_no] at bx ⊢
          rw [lpp_iff] at c
          omega
        · rw [if_neg c] at bx; exact bx
      · rcases List.mem_cons.1 hy with rfl | hy
        · by_cases c : lpp y x = true
          · rw [if_pos c] at bx; exact bx
          · rw [if_neg c] at bx
            have c' : lpp y x = false := by simpa using c
            rw [lpp_no] at bx c' ⊢
            omega
        · exact b y (List.mem_cons_of_mem _ hy)
/-! ### slices -/
theorem cutL_nat {α : Type} {xs : List α} {i j : Nat} (hj : j ≤ xs.length) : cutL xs (some (i : Int)) (some (j : Int)) = (xs.drop i).take (j - i) := by
  unfold cutL
  rw [HT.sIx_nat, HT.sIx_nat, Nat.min_eq_left hj]
  by_cases h : i ≤ xs.length
  · rw [Nat.min_eq_left h]
  · rw [Nat.min_eq_right (by omega), List.drop_of_length_le (Nat.le_refl _), List.drop_of_length_le (by omega)]
    simp
theorem cutL_from {α : Type} {xs : List α} {i : Nat} : cutL xs (some (i : Int)) none = xs.drop i := by
  unfold cutL
  rw [HT.sIx_nat, HT.sIx_none]
  by_cases h : i ≤ xs.length
  · rw [Nat.min_eq_left h, List.take_of_length_le (by simp)]
  · rw [Nat.min_eq_right (by omega), List.drop_of_length_le (Nat.le_refl _), List.drop_of_length_le (by omega)]; simp
theorem cutL_to {α : Type} {xs : List α} {j : Nat} : cutL xs none (some (j : Int)) = xs.take j := by
  unfold cutL
  rw [HT.sIx_nat, HT.sIx_none, List.drop_zero, Nat.sub_zero]
  by_cases h : j ≤ xs.length
  · rw [Nat.min_eq_left h]
  · rw [Nat.min_eq_right (by omega), List.take_of_length_le (Nat.le_refl _), List.take_of_length_le (by omega)]
theorem cutL_last {α : Type} (xs : List α) : cutL xs (some (-(1 : Int))) none = xs.drop (xs.length - 1) := by
  have e : HT.sIx xs.length 0 (some (-(1 : Int))) = xs.length - 1 := by
    show (if (-(1 : Int)) < 0 then (-(1 : Int) + (xs.length : Int)).toNat else min (-(1 : Int)).toNat xs.length) = _
    rw [if_pos (by decide)]; omega
  unfold cutL
  rw [e, HT.sIx_none, List.take_of_length_le (by simp)]
theorem sum_sub : ∀ {xs ys : List Int}, List.Sublist xs ys → (∀ y ∈ ys, 0 ≤ y) → 0 ≤ xs.sum ∧ xs.sum ≤ ys.sum := by
  intro xs ys h
  induction h with
  | slnil => simp
  | cons a h ih => intro hy; have := ih fun y m => hy y (List.mem_cons_of_mem _ m); have := hy a (List.mem_cons_self ..); simp only [List.sum_cons]; omega
  | cons_cons a h ih => intro hy; have := ih fun y m => hy y (List.mem_cons_of_mem _ m); have := hy a (List.mem_cons_self ..); simp only [List.sum_cons]; omega
theorem cutL_sub {α : Type} (xs : List α) (a b : Option Int) : List.Sublist (cutL xs a b) xs := by
  unfold cutL
  exact (List.take_sublist _ _).trans (List.drop_sublist _ _)
theorem sum_le_len {xs : List Int} {m : Int} (h : ∀ x ∈ xs, x ≤ m) : xs.sum ≤ m * xs.length := by
  induction xs with
  | nil => simp
  | cons x xs ih =>
    have := ih fun y hy => h y (List.mem_cons_of_mem _ hy)
    have := h x (List.mem_cons_self ..)
    rw [List.sum_cons, List.length_cons]
    have e : m * ((xs.length + 1 : Nat) : Int) = m * xs.length + m := by
      rw [show ((xs.length + 1 : Nat) : Int) = (xs.length : Int) + 1 by omega, Int.mul_add, Int.mul_one]
    omega
end Z
namespace Z
open PySem PySem.Spec PyProof.Rows L2
section
variable {α β S Ω : Type}
/-- a walk that ends somehow -/
theorem forO_ex {Pr : Ω → Prop} (Inv : S → Prop) {b : α → S → (S → Option Ω) → Option Ω} {k : S → Option Ω} : ∀ {xs : List α} {s : S}, Inv s →
    (∀ s x, x ∈ xs → Inv s → ∀ kc : S → Option Ω, (∀ s', Inv s' → ∃ r, kc s' = some r ∧ Pr r) → ∃ r, b x s kc = some r ∧ Pr r) → (∀ s, Inv s → ∃ r, k s = some r ∧ Pr r) → ∃ r, forO xs s b k = some r ∧ Pr r
  | [], s, h0, _, he => he s h0
  | x :: xs, s, h0, hs, he => hs s x (List.mem_cons_self ..) h0 _ fun s' h' => forO_ex Inv h' (fun s y m => hs s y (List.mem_cons_of_mem _ m)) he
theorem ite_wp {c : Prop} [Decidable c] {x y : Option Ω} {ω : Ω} (h1 : c → x = some ω) (h2 : ¬ c → y = some ω) : (if c then x else y) = some ω := by
  split
  · exact h1 ‹_›
  · exact h2 ‹_›
theorem ite_d {c : Prop} [Decidable c] {Γ : Type} {x y : Γ} : (if (decide c) = true then x else y) = if c then x else y := by
  by_cases h : c
  · rw [if_pos h, if_pos (decide_eq_true h)]
  · rw [if_neg h, if_neg (by simpa using h)]
theorem ite_nd {c : Prop} [Decidable c] {Γ : Type} {x y : Γ} : (if (!decide c) = true then x else y) = if c then y else x := by
  by_cases h : c
  · rw [if_pos h, decide_eq_true h, if_neg (by decide)]
  · rw [if_neg h, decide_eq_false h, if_pos (by decide)]
theorem ite_t {Γ : Type} {x y : Γ} : (if (true : Bool) = true then x else y) = x := rfl
theorem ite_f {Γ : Type} {x y : Γ} : (if (false : Bool) = true then x else y) = y := rfl
theorem ite_nt {Γ : Type} {x y : Γ} : (if (!(true : Bool)) = true then x else y) = y := rfl
theorem ite_nf {Γ : Type} {x y : Γ} : (if (!(false : Bool)) = true then x else y) = x := rfl
theorem len_pos_d {xs : List α} : (decide ((0 : Int) < (xs.length : Int))) = !xs.isEmpty := by
  cases xs <;> simp
theorem ck_pos {b : Bool} {k : Option Ω} (h : b = true) : ck b k = k := by rw [h]; rfl
end
end Z
namespace Z
open PySem PySem.Spec PyProof.Rows L2
section
variable {α β S Ω : Type}
theorem forO_exN {Pr : Ω → Prop} (Inv : Nat → S → Prop) {b : α → S → (S → Option Ω) → Option Ω} {k : S → Option Ω} : ∀ (xs : List α) (n : Nat) (s : S), Inv n s →
    (∀ i s x, xs[i]? = some x → Inv (n + i) s → ∀ kc : S → Option Ω, (∀ s', Inv (n + i + 1) s' → ∃ r, kc s' = some r ∧ Pr r) → ∃ r, b x s kc = some r ∧ Pr r) → (∀ s, Inv (n + xs.length) s → ∃ r, k s = some r ∧ Pr r) → ∃ r, forO xs s b k = some r ∧ Pr r
  | [], n, s, h0, _, he => he s h0
  | x :: xs, n, s, h0, hs, he => hs 0 s x rfl h0 _ fun s' h' => forO_exN Inv xs (n + 1) s' h'
      (fun i s y e h kc hk => hs (i + 1) s y e (by rw [show n + (i + 1) = n + 1 + i by omega]; exact h) kc fun s' h' => hk s' (by rw [show n + 1 + i + 1 = n + (i + 1) + 1 by omega]; exact h'))
      fun s h => he s (by rw [show n + (x :: xs).length = n + 1 + xs.length by simp; omega]; exact h)
theorem enumL_rng {xs : List α} (d : α) : enumL xs = (rangeL 0 (xs.length : Int)).map fun i => (i, xs.getD i.toNat d) := by
  rw [rangeL_nat, List.map_map]
  refine List.ext_getElem? fun i => ?_
  rw [enumL_get, List.getElem?_map]
  by_cases h : i < xs.length
  · rw [List.getElem?_range h]; simp [List.getElem?_eq_getElem h, List.getD_eq_getElem?_getD]
  · rw [List.getElem?_eq_none (by omega), List.getElem?_eq_none (by simp; omega)]; rfl
end
end Z
namespace Z
open PySem PySem.Spec PyProof.Rows L2
section
variable {α β S Ω : Type}
/-- a walk that goes through and leaves something -/
theorem forO_run (Inv : Nat → S → Prop) {b : α → S → (S → Option Ω) → Option Ω} : ∀ (xs : List α) (n : Nat) (s : S), Inv n s → (∀ i s x, xs[i]? = some x → Inv (n + i) s → ∃ s', Inv (n + i + 1) s' ∧ ∀ kc, b x s kc = kc s') → ∃ s', Inv (n + xs.length) s' ∧ ∀ k, forO xs s b k = k s'
  | [], n, s, h, _ => ⟨s, h, fun _ => rfl⟩
  | x :: xs, n, s, h, hs => by
    obtain ⟨s1, h1, e1⟩ := hs 0 s x rfl h
    obtain ⟨s2, h2, e2⟩ := forO_run Inv xs (n + 1) s1 h1 fun i s y hy hi => by
      have := hs (i + 1) s y hy (by rw [show n + (i + 1) = n + 1 + i by omega]; exact hi)
      rwa [show n + (i + 1) + 1 = n + 1 + i + 1 by omega] at this
    exact ⟨s2, by rw [show n + (x :: xs).length = n + 1 + xs.length by simp; omega]; exact h2, fun k => (e1 _).trans (e2 k)⟩
/-- a walk that sifts into a list -/
theorem forO_filt (f : α → Option β) {b : α → List β → (List β → Option Ω) → Option Ω} {k : List β → Option Ω} : ∀ (xs : List α) (acc : List β), acc.length + xs.length ≤ SZ → (∀ x ∈ xs, ∀ t kc, t.length < SZ → b x t kc = kc (t ++ (f x).toList)) → forO xs acc b k = k (acc ++ xs.filterMap f)
  | [], acc, _, _ => by simp [forO]
  | x :: xs, acc, hl, h => by
    rw [List.length_cons] at hl
    show b x acc _ = _
    rw [h x (List.mem_cons_self ..) acc _ (by omega), List.filterMap_cons]
    cases f x with
    | none =>
      rw [Option.toList_none, List.append_nil]
      exact forO_filt f xs acc (by omega) fun y m => h y (List.mem_cons_of_mem _ m)
    | some y =>
      rw [Option.toList_some, forO_filt f xs (acc ++ [y]) (by simp; omega) fun y m => h y (List.mem_cons_of_mem _ m)]
      simp
/-- a while that ends: by a measure -/
theorem whileO_run (Inv : S → Prop) (ms : S → Nat) (done : S → Prop) {b : S → (S → Option Ω) → Option Ω} (hstep : ∀ s, Inv s → ¬ done s → ∃ s', Inv s' ∧ ms s' < ms s ∧ ∀ kc, b s kc = kc s') : ∀ (fu : Nat) (s : S), ms s < fu → Inv s → ∃ s', Inv s' ∧ done s' ∧ ∃ fu', whileO fu s b = whileO (fu' + 1) s' b
  | 0, s, h, _ => absurd h (Nat.not_lt_zero _)
  | fu + 1, s, h, hi => by
    by_cases hd : done s
    · exact ⟨s, hi, hd, fu, rfl⟩
    · obtain ⟨s1, i1, m1, e1⟩ := hstep s hi hd
      obtain ⟨s2, i2, d2, f2, e2⟩ := whileO_run Inv ms done hstep fu s1 (by omega) i1
      exact ⟨s2, i2, d2, f2, (e1 _).trans e2⟩
end
end Z
namespace Z
open PySem PySem.Spec PyProof.Rows L2
/-! ### words of faults -/
def wd (s : Str) : PyData := .tuple [.str s]
def wd1 (s : Str) (k : Int) : PyData := .tuple [.str s, .int k]
def wd2 (s : Str) (i j : Int) : PyData := .tuple [.str s, .int i, .int j]
theorem shaped_wd {s : Str} (h : PyData.strOk s = true) : SeqAt.shaped (wd s) = true := by
  simp [SeqAt.shaped, wd, PyData.canLay0, PyData.canLayAll0, PyData.depth, PyData.depthAll, h]
theorem shaped_wd1 {s : Str} {k : Int} (h : PyData.strOk s = true) : SeqAt.shaped (wd1 s k) = true := by
  simp [SeqAt.shaped, wd1, PyData.canLay0, PyData.canLayAll0, PyData.depth, PyData.depthAll, h]
theorem shaped_wd2 {s : Str} {i j : Int} (h : PyData.strOk s = true) : SeqAt.shaped (wd2 s i j) = true := by
  simp [SeqAt.shaped, wd2, PyData.canLay0, PyData.canLayAll0, PyData.depth, PyData.depthAll, h]
theorem shaped_none : SeqAt.shaped PyData.none = true := by decide
theorem shaped_eqv {d : PyData} (h : SeqAt.shaped d = true) : PyData.eqv d d = true := PySem.SeqAt.eqv_refl d (SeqAt.canLay_of_shaped h)
/-- lists of ints that are shown -/
def Bnd (n : Nat) (xs : List Int) : Prop := xs.length ≤ n ∧ ∀ x ∈ xs, x.natAbs < 10 ^ 12
theorem shInts {n : Nat} {xs : List Int} (h : Bnd n xs) : Sh 1 (n * 1) ((eL eI).enc xs) := by
  have := shL (k := 0) (m := 0) (n := n) (ds := xs.map eI.enc) (fun d m => by obtain ⟨x, mx, rfl⟩ := List.mem_map.1 m; exact shI (h.2 x mx)) (by simpa using h.1)
  exact this
theorem rangeL_asc {lo hi : Int} : (rangeL lo hi).Pairwise (· < ·) := by
  unfold rangeL
  rw [List.pairwise_map]
  exact List.pairwise_lt_range.imp fun {a b} h => by omega
theorem asc_sublist {hi : Int} : ∀ (n : Nat) (lo : Int) (row : List Int), (hi - lo).toNat = n → row.Pairwise (· < ·) → (∀ x ∈ row, lo ≤ x ∧ x < hi) → List.Sublist row (rangeL lo hi)
  | _, lo, [], _, _, _ => List.nil_sublist _
  | 0, lo, x :: row, hn, _, h => by have := h x (List.mem_cons_self ..); omega
  | n + 1, lo, x :: row, hn, p, h => by
    have hx := h x (List.mem_cons_self ..)
    rw [rangeL_cons' (by omega)]
    obtain ⟨p1, p2⟩ := List.pairwise_cons.1 p
    by_cases e : x = lo
    · subst e
      exact List.Sublist.cons_cons _ (asc_sublist n (x + 1) row (by omega) p2 fun y m => ⟨by have := p1 y m; omega, (h y (List.mem_cons_of_mem _ m)).2⟩)
    · refine List.Sublist.cons _ (asc_sublist n (lo + 1) (x :: row) (by omega) p fun y m => ⟨?_, (h y m).2⟩)
      rcases List.mem_cons.1 m with rfl | m
      · omega
      · have := p1 y m; omega
end Z

set_option Elab.async false
set_option linter.all false
set_option maxRecDepth 100000
namespace Z
open PySem PySem.Spec PyProof.Rows L2
section
variable {X : Cx} {Ω : Type} {env : Env} {nm : Str} {pos np rp p2 : Pos} {a b e : Expr} {P P1 P2 : Type} {e' : P → Env} {e1 : P1 → Env} {e2 : P1 → P2 → Env}
/-- a whole number of the top -/
theorem lx_gI {n : Int} (h : ∃ t, X.mg nm = some (.int n t)) (hg : Gl X nm := by rfl) (hd : (nm == ("__debug__" : Str)) = false := by decide) : LX X env (.Name nm pos) (it eI) (fun _ : Unit => env) (fun (k : Int → Unit → Option Ω) => k n ()) := by
  obtain ⟨t, h⟩ := h
  exact lx_c (pe_glob (v := .int n) hg h ⟨t, rfl⟩ hd) fun _ => .int n
/-- list(range(n)) -/
theorem rgV_eq (lo hi : Int) : rgV lo hi = (rangeL lo hi).map V.int := by
  unfold rgV rangeL
  rw [List.map_map]; rfl
theorem lx_listrg1 {f : (Int → P → Option Ω) → Option Ω} (hc : X.calm = true) (hm : X.mg "list" = none) (hm2 : X.mg "range" = none) (ha : LX X env a (it eI) e' f) (hg : Gl X "list" := by rfl) (hg2 : Gl X "range" := by rfl)
    (na : starEach [a] X.env = (false, eval a X.env) :: starEach [] X.env := by rfl) (nb : starEach [Expr.Call (.Name "range" rp) [a] [] p2] X.env = (false, eval (Expr.Call (.Name "range" rp) [a] [] p2) X.env) :: starEach [] X.env := by rfl) :
    LX X env (.Call (.Name "list" np) [.Call (.Name "range" rp) [a] [] p2] [] pos) (ls (it eI)) e' (fun k => f fun n p => ck (decide (-(2 ^ 62) ≤ n ∧ n ≤ 16777216)) (k (rangeL 0 n) p)) :=
  fun C F H σs es σ k ω Q hK hl h hk q => tE.of X (pe_listRg hc hg hm (prg_1 hg2 hm2 (peC X) na) nb) (lo_run (lo_of ha) (fun _ => trivial) hK hl h hk fun n p v F' H' fp hk' h' rr => by
    obtain ⟨hc, hk2⟩ := ck_some hk'
    obtain ⟨_, rr⟩ := rr
    cases rr
    have hc := of_decide_eq_true hc
    refine ⟨n, rfl, ?_, fun t nt => ?_⟩
    · exact ⟨by omega, by omega, by omega, by omega, by omega⟩
    · rw [rgV_eq]
      exact q _ p _ F' _ hk2 (h'.newOw nt ⟨t, _, [], rfl, upd_same, (RepAll.ofInts (rangeL 0 n)).zero, rfl⟩))
/-- range(a, b, -1) -/
def downL (lo hi : Int) : List Int := (List.range (lo - hi).toNat).map fun i : Nat => lo - (i : Nat)
theorem yields_down {C : Ck} {lo hi : Int} : Yields C (it eI) (Itc lo (-1) (lo - hi).toNat) (downL lo hi) [] [] := ⟨rfl, fun i F H σ2 σb e2 eb hl2 h2 => by
  refine ⟨fun y hy => ?_, fun hn => ?_⟩
  · unfold downL at hy
    rw [List.getElem?_map] at hy
    by_cases hi : i < (lo - hi).toNat
    · rw [List.getElem?_range hi] at hy
      simp at hy; subst hy
      refine ⟨hi, fun v H' hy' => ⟨F, ?_⟩⟩
      obtain ⟨e1, e2⟩ := hy'
      rw [e1, e2, show lo + (i : Int) * (-1) = lo - i by omega]
      exact h2.pushSh (.int _)
    · rw [List.getElem?_eq_none (by simpa using hi)] at hy; cases hy
  · unfold downL at hn
    rw [List.getElem?_eq_none_iff] at hn
    simp at hn
    show (lo - hi).toNat ≤ i
    omega⟩
theorem li_down {tg : Expr} {f1 : (Int → P1 → Option Ω) → Option Ω} {f2 : P1 → (Int → P2 → Option Ω) → Option Ω} {p u1 u2 : Pos} {j : Nat} (hg : Gl X "range") (hm : X.mg "range" = none) (h1 : LX X env a (it eI) e1 f1) (h2 : ∀ p1, LX X (e1 p1) b (it eI) (e2 p1) (f2 p1))
    (hs : starEach [a, b, .UnaryOp .USub (.Constant (.int 1) j u1) u2] X.env = (false, eval a X.env) :: starEach [b, .UnaryOp .USub (.Constant (.int 1) j u1) u2] X.env := by rfl) (hs2 : starEach [b, .UnaryOp .USub (.Constant (.int 1) j u1) u2] X.env = (false, eval b X.env) :: starEach [.UnaryOp .USub (.Constant (.int 1) j u1) u2] X.env := by rfl)
    (hs3 : starEach [.UnaryOp .USub (.Constant (.int 1) j u1) u2] X.env = (false, eval (.UnaryOp .USub (.Constant (.int 1) j u1) u2) X.env) :: starEach [] X.env := by rfl) (hpl : (backTo pos (starEach [b, .UnaryOp .USub (.Constant (.int 1) j u1) u2] X.env)).any (·.1) = false := by rfl) :
    LI X env tg (.Call (.Name "range" p) [a, b, .UnaryOp .USub (.Constant (.int 1) j u1) u2] [] pos) (it eI) (fun q : P1 × P2 => e2 q.1 q.2) (fun k => f1 fun x p1 => f2 p1 fun y p2 => ck (rgOk x y) (k (downL x y) (p1, p2))) :=
  fun C F H σs es σ k ω R hK hl hr hk q => tI.of X (pi_range3 hg hm (pa_cons (peC X) (pa_cons (peC X) (pa_cons (pe_un un_neg pe_int) pa_nil hs3) hs2) hs) hs hpl) (op2_run (lo_of h1) (fun p1 => lo_of (h2 p1)) (fun _ _ => trivial) (fun _ _ => trivial) hK hl hr hk
    fun x p1 y p2 v u F' H' fp fq hk' h' r1 r2 => by
      obtain ⟨hc, hk2⟩ := ck_some hk'
      obtain ⟨_, r1⟩ := r1
      obtain ⟨_, r2⟩ := r2
      cases r1; cases r2
      have hc := of_decide_eq_true (p := -(2 ^ 62) ≤ x ∧ x < 2 ^ 62 ∧ -(2 ^ 62) ≤ y ∧ y < 2 ^ 62) hc
      exact ⟨1, rfl, x, y, -1, (x - y).toNat, rfl, RgC.neg hc.1 hc.2.1 hc.2.2.1 hc.2.2.2, q (downL x y) (p1, p2) _ F' H' [] [] hk2 h' yields_down⟩)
end
end Z
namespace Z
open PySem PySem.Spec PyProof.Rows L2
section
variable {α Ω : Type}
/-- a walk that ends at the first one that .. -/
theorem forO_find (P : α → Bool) (f : α → Ω) {b : α → Unit → (Unit → Option Ω) → Option Ω} {k : Unit → Option Ω} : ∀ (xs : List α), (∀ x ∈ xs, ∀ kc, b x () kc = if P x = true then some (f x) else kc ()) → forO xs () b k = (xs.find? P).elim (k ()) (fun x => some (f x))
  | [], _ => rfl
  | x :: xs, h => by
    show b x () _ = _
    rw [h x (List.mem_cons_self ..), List.find?_cons]
    cases P x with
    | true => rfl
    | false => exact forO_find P f xs fun y m => h y (List.mem_cons_of_mem _ m)
end
end Z
namespace Z
theorem forO_mapL {α β S Ω : Type} (f : α → β) {b : β → S → (S → Option Ω) → Option Ω} {k : S → Option Ω} : ∀ (xs : List α) (s : S), forO (xs.map f) s b k = forO xs s (fun x => b (f x)) k
  | [], s => rfl
  | x :: xs, s => congrArg (b (f x) s) (funext fun s' => forO_mapL f xs s')
end Z

set_option Elab.async false
set_option linter.all false
set_option maxRecDepth 100000
namespace Z
open PySem PySem.Spec PyProof.Rows L2
theorem eLD {τ : Type} {E : Enc τ} {a : List τ} : (eL eD).enc (List.map E.enc a) = (eL E).enc a := by simp [eL, eD]
section
variable {X : Cx} {Ω : Type} {env : Env} {τ τ1 α : Type} {S : Stor τ} {S1 : Stor τ1} {E : Enc α} {pos : Pos} {a b : Expr} {P1 P2 : Type} {fa : (τ1 → P1 → Option Ω) → Option Ω} {e1 : P1 → Env} {g1 : τ1 → List α} {e2 : P1 → P2 → Env} {G1 : Env → Prop}
theorem RepAll.flat {K : Fg} {F : Hp} {vs : List V} {ds : List PyData} (h : RepAll K F vs ds) : ∀ n : Nat, RepAll K F (List.replicate n vs).flatten (List.replicate n ds).flatten
  | 0 => .nil
  | n + 1 => by
    rw [List.replicate_succ, List.replicate_succ, List.flatten_cons, List.flatten_cons]
    exact h.app (RepAll.flat h n)
/-- xs * n -/
theorem lx_rep {fb : P1 → (Int → P2 → Option Ω) → Option Ω} (hv1 : LVm S1 (it E) g1) (ha : LO X G1 env a S1 e1 fa) (hb : ∀ p1, LX X (e1 p1) b (it eI) (e2 p1) (fb p1)) (h1 : ∀ p1 p2, G1 (e2 p1 p2)) :
    LX X env (.BinOp a .Mult b pos) (ls (it E)) (fun p : P1 × P2 => e2 p.1 p.2) (fun k => fa fun x p1 => fb p1 fun n p2 => ck (decide (-(2 ^ 62) ≤ n ∧ n ≤ 16777216 ∧ (g1 x).length * n.toNat ≤ SZ)) (k ((List.replicate n.toNat (g1 x)).flatten) (p1, p2))) :=
  fun C F H σs es σ k ω Q hK hl h hk q => tE.of X (pe_op op_rep (peC X) (peC X)) (op2_run ha (fun p1 => lo_of (hb p1)) h1 (fun _ _ => trivial) hK hl h hk fun x p1 n p2 v u F' H' fp fq hk' h' r1 r2 => by
    obtain ⟨hc, hk'⟩ := ck_some hk'
    obtain ⟨_, r2⟩ := r2
    cases r2
    obtain ⟨p, vs, fps, rfl, l1, ra⟩ := hv1.view h'.sF r1
    have hc' := of_decide_eq_true hc
    have n1 := ra.length
    refine ⟨p, n, vs, rfl, rfl, l1, Int.le_trans (by decide) hc'.1, Int.lt_of_le_of_lt hc'.2.1 (by decide), by rw [SZ_eq, n1]; exact hc'.2.2, fun t nt => ?_⟩
    refine q _ (p1, p2) (.ref t) F' _ hk' (h'.newOw nt ⟨t, _, [], rfl, upd_same, ?_, rfl⟩)
    have := ra.zero.2.flat n.toNat
    have e : (List.replicate n.toNat ((g1 x).map E.enc)).flatten = ((List.replicate n.toNat (g1 x)).flatten).map E.enc := by
      rw [List.map_flatten, List.map_replicate]
    rw [e] at this
    exact this.zero)
/-- [] of own things -/
theorem lx_nilS {Sa : Stor α} : LX X env (.List [] pos) (ls Sa) (fun _ : Unit => env) (fun (k : List α → Unit → Option Ω) => k [] ()) :=
  fun C F H σs es σ k ω Q hK hl hr hk q => tE.of X (pe_lst (paC X)) (la_nil C F H σs es σ _ ω _ hK hl hr hk fun a p vs F' H' hk' hlv h' => by
    match vs, hlv with
    | [], _ =>
      refine ⟨by decide, fun t nt => ?_⟩
      exact q [] () (.ref t) F' _ hk' (h'.newOw nt ⟨t, [], [], rfl, upd_same, .nil, rfl⟩))
end
/-! ### cuts: nothing changed, one way on -/
section
variable {X : Cx} {Ω : Type} {env : Env} {τ : Type} {S : Stor τ} {e : Expr} {P : Type} {e' : P → Env}
theorem lx_nc {f : (τ → P → Option Ω) → Option Ω} (h : LX X env e S e' f) (hs : ∀ p, e' p = env) : LX X env e S (fun _ : Unit => env) (fun (k : τ → Unit → Option Ω) => f fun a _ => k a ()) :=
  fun C F H σs es σ k ω Q hK hl hr hk q => h C F H σs es σ _ ω Q hK hl hr hk fun a p v F' H' hka h' => q a () v F' H' hka (by rw [hs p] at h'; exact h')
/-- .. and one way on -/
theorem lx_cut {f : (τ → P → Option τ) → Option τ} (h : LX (Ω := τ) X env e S e' f) (hs : ∀ p, e' p = env) : LX X env e S (fun _ : Unit => env) (fun (k : τ → Unit → Option Ω) => (f fun a _ => some a).bind fun a => k a ()) :=
  fun C F H σs es σ k ω Q hK hl hr hk q => by
    obtain ⟨r, hf, hk⟩ := bind_some hk
    exact h C F H σs es σ (fun a _ => some a) r Q hK hl hr hf fun a p v F' H' hka h' => q a () v F' H' (by cases hka; exact hk) (by rw [hs p] at h'; exact h')
theorem lt_cut {f : (Bool → P → Option Bool) → Option Bool} (h : LT (Ω := Bool) X env e e' f) (hs : ∀ p, e' p = env) : LT X env e (fun _ : Unit => env) (fun (k : Bool → Unit → Option Ω) => (f fun b _ => some b).bind fun b => k b ()) :=
  fun C F H σs es σ k ω Q hK hl hr hk q => by
    obtain ⟨r, hf, hk⟩ := bind_some hk
    exact h C F H σs es σ (fun a _ => some a) r Q hK hl hr hf fun a p F' H' hka h' => q a () F' H' (by cases hka; exact hk) (by rw [hs p] at h'; exact h')
end
section
variable {X : Cx} {R I Ω J : Type} {SR : Stor R} {envR : I → Env} {kr : R → I → Option Ω} {bk ct : Lp Ω} {env : Env} {rest : List Stmt} {envJ : J → Env} {nm nm2 nm3 : Str} {pos : Pos} {a b c : Expr} {P : Type} {e' : P → Env}
/-- lb_par, whose slots are read off last (else the parts are walked blind) -/
theorem lb_parS {τ1 τ2 : Type} {S1 : Stor τ1} {S2 : Stor τ2} {sl : τ1 × τ2 × Unit → Env} {f : ((τ1 × τ2 × Unit) → P → Option Ω) → Option Ω} {fr : τ1 → τ2 → P → (J → Option Ω) → Option Ω} {px py pt : Pos} {kt k2 : Nat} {pt2 : Pos} (i j : Nat) (hN : X.N.Nodup) (hc : X.calm = true) (ha : LA X env [a, b] sl e' f) (hsl : ∀ p, sl p = [.st none τ1 S1 p.1, .st none τ2 S2 p.2.1])
    (hr : ∀ x y p, LB X SR envR kr bk ct (((e' p).set i (.st none τ1 S1 x)).set j (.st none τ2 S2 y)) rest envJ (fr x y p))
    (hi : X.N[i]? = some nm := by rfl) (hj : X.N[j]? = some nm2 := by rfl) (hij : i ≠ j := by decide) (hx : X.env.scope.names.lookup nm = some .local := by rfl) (hy : X.env.scope.names.lookup nm2 = some .local := by rfl)
    (hli : ∀ p, i < (e' p).length := by exact (fun _ => Nat.lt_of_sub_eq_succ rfl)) (hlj : ∀ p, j < (e' p).length := by exact (fun _ => Nat.lt_of_sub_eq_succ rfl))
    (hw : swappedStores [.Tuple [.Name nm px, .Name nm2 py] kt pt] (.Tuple [a, b] k2 pt2) X.env = pure (some [nm, nm2]) := by rfl)
    (hs : swapsWithSole [.Tuple [.Name nm px, .Name nm2 py] kt pt] (.Tuple [a, b] k2 pt2) pos.line X.env = pure false := by rfl) :
    LB X SR envR kr bk ct env (.Assign [.Tuple [.Name nm px, .Name nm2 py] kt pt] (.Tuple [a, b] k2 pt2) pos :: rest) envJ (fun kn => f fun r p => fr r.1 r.2.1 p kn) := by
  obtain rfl : sl = _ := funext hsl
  exact lb_par i j hN hc ha hr hi hj hij hx hy hli hlj hw hs
theorem lb_par3S {τ1 τ2 τ3 : Type} {S1 : Stor τ1} {S2 : Stor τ2} {S3 : Stor τ3} {sl : τ1 × τ2 × τ3 × Unit → Env} {f : ((τ1 × τ2 × τ3 × Unit) → P → Option Ω) → Option Ω} {fr : τ1 → τ2 → τ3 → P → (J → Option Ω) → Option Ω} {px py pz pt : Pos} {kt k2 : Nat} {pt2 : Pos} (i j l : Nat) (hN : X.N.Nodup) (hc : X.calm = true) (ha : LA X env [a, b, c] sl e' f) (hsl : ∀ p, sl p = [.st none τ1 S1 p.1, .st none τ2 S2 p.2.1, .st none τ3 S3 p.2.2.1])
    (hr : ∀ x y z p, LB X SR envR kr bk ct ((((e' p).set i (.st none τ1 S1 x)).set j (.st none τ2 S2 y)).set l (.st none τ3 S3 z)) rest envJ (fr x y z p))
    (hi : X.N[i]? = some nm := by rfl) (hj : X.N[j]? = some nm2 := by rfl) (hl3 : X.N[l]? = some nm3 := by rfl) (hij : i ≠ j := by decide) (hil : i ≠ l := by decide) (hjl : j ≠ l := by decide) (hx : X.env.scope.names.lookup nm = some .local := by rfl) (hy : X.env.scope.names.lookup nm2 = some .local := by rfl) (hz : X.env.scope.names.lookup nm3 = some .local := by rfl)
    (hli : ∀ p, i < (e' p).length := by exact (fun _ => Nat.lt_of_sub_eq_succ rfl)) (hlj : ∀ p, j < (e' p).length := by exact (fun _ => Nat.lt_of_sub_eq_succ rfl)) (hll : ∀ p, l < (e' p).length := by exact (fun _ => Nat.lt_of_sub_eq_succ rfl))
    (hw : swappedStores [.Tuple [.Name nm px, .Name nm2 py, .Name nm3 pz] kt pt] (.Tuple [a, b, c] k2 pt2) X.env = pure (some [nm, nm2, nm3]) := by rfl)
    (hs : swapsWithSole [.Tuple [.Name nm px, .Name nm2 py, .Name nm3 pz] kt pt] (.Tuple [a, b, c] k2 pt2) pos.line X.env = pure false := by rfl) :
    LB X SR envR kr bk ct env (.Assign [.Tuple [.Name nm px, .Name nm2 py, .Name nm3 pz] kt pt] (.Tuple [a, b, c] k2 pt2) pos :: rest) envJ (fun kn => f fun r p => fr r.1 r.2.1 r.2.2.1 p kn) := by
  obtain rfl : sl = _ := funext hsl
  exact lb_par3 i j l hN hc ha hr hi hj hl3 hij hil hjl hx hy hz hli hlj hll hw hs
end
/-! ### items of a list of own lists -/
theorem ixN_lt' {n i : Nat} {j : Int} (h : ixN n j = some i) : i < n := by
  unfold ixN at h
  split at h
  · split at h
    · cases h; omega
    · cases h
  · split at h
    · cases h; omega
    · cases h
theorem RelAll.split {α : Type} {R : List Addr → V → α → Prop} : ∀ {fp : List Addr} {vs : List V} {xs : List α}, RelAll R fp vs xs → ∀ {n : Nat} {x : α}, xs[n]? = some x →
    ∃ fp1 fq fp2 v, fp = fp1 ++ (fq ++ fp2) ∧ vs[n]? = some v ∧ R fq v x ∧ ∀ (R' : List Addr → V → α → Prop) (fq' : List Addr) (x' : α), (∀ fr w y, (∀ a ∈ fr, a ∈ fp1 ∨ a ∈ fp2) → R fr w y → R' fr w y) → R' fq' v x' → RelAll R' (fp1 ++ (fq' ++ fp2)) vs (xs.set n x')
  | _, _, _, .nil, n, x, e => by simp at e
  | _, _, _, .cons (fp := fq) (fps := fps) h r, 0, x, e => by
    simp at e; subst e
    refine ⟨[], fq, fps, _, rfl, rfl, h, fun R' fq' x' f q => ?_⟩
    have := RelAll.cons q (RelAll.imp (R' := R') (fun fr w y s z => f fr w y (fun a m => .inr (s a m)) z) r)
    simpa using this
  | _, _, _, .cons (fp := fq) (fps := fps) h r, n + 1, x, e => by
    obtain ⟨fp1, fr, fp2, u, rfl, e2, hr, k⟩ := RelAll.split r (n := n) (by simpa using e)
    refine ⟨fq ++ fp1, fr, fp2, u, by simp [List.append_assoc], by simpa using e2, hr, fun R' fq' x' f q => ?_⟩
    have := RelAll.cons (f _ _ _ (fun a m => .inl (List.mem_append_left _ m)) h) (k R' fq' x' (fun fs w y s z => f fs w y (fun a m => (s a m).elim (fun m => .inl (List.mem_append_right _ m)) .inr) z) q)
    simpa [List.append_assoc] using this
/-- a list whose object and items are known: while it is written to -/
def pinL {α : Type} (S : Stor α) (q : Addr) (vs : List V) : Stor (List α) where
  rel := fun K F H fp v xs => ∃ fps, v = .ref q ∧ H q = some (.lst vs) ∧ RelAll (S.rel K F H) fps vs xs ∧ fp = q :: fps
  monoF := fun s h => by
    obtain ⟨fps, rfl, hp, r, rfl⟩ := h
    exact ⟨fps, rfl, hp, r.imp fun _ _ _ _ q => S.monoF s q, rfl⟩
  frame := fun f h => by
    obtain ⟨fps, rfl, hp, r, rfl⟩ := h
    exact ⟨fps, rfl, by rw [f _ List.mem_cons_self]; exact hp, r.imp fun fq _ _ s q => S.frame (fun a m => f a (List.mem_cons_of_mem _ (s a m))) q, rfl⟩
section
variable {X : Cx} {R I Ω : Type} {SR : Stor R} {envR : I → Env} {kr : R → I → Option Ω} {bk ct : Lp Ω} {env : Env} {nm : Str} {pos : Pos} {e ie : Expr} {rest : List Stmt} {P P1 P2 α : Type} {E : Enc α} {J : Type} {envJ : J → Env}
theorem ER.pin {C : Ck} {F H : Hp} {σ : List (Option V)} {env : Env} {w : Option V} {Sa : Stor α} {xs : List α} {i : Nat} {q1 : Addr} (h : ER C F H σ env) (e : env[i]? = some (.st w (List α) (ls Sa) xs)) (hv : σ[i]? = some (some (.ref q1))) :
    ∃ vs, ER C F H σ (env.set i (.st w (List α) (pinL Sa q1 vs) xs)) := by
  obtain ⟨v, fp, e1, r, nd, ow, fin⟩ := h.mut e
  rw [hv] at e1; cases e1
  obtain ⟨q, vs, fps, e2, hq, ra, rfl⟩ := r
  cases e2
  exact ⟨vs, fin (List α) (pinL Sa q1 vs) xs H (q1 :: fps) (fun _ _ _ => rfl) (fun _ m => m) ⟨fps, rfl, hq, ra, rfl⟩ nd fun a m => ⟨(ow a m).2.2, .inl m⟩⟩
/-- x[i].append(e), x a list of own lists -/
theorem lb_appIx {fi : (Int → P1 → Option Ω) → Option Ω} {f : P1 → (α → P2 → Option Ω) → Option Ω} {fr : Int → P1 → α → P2 → List (List α) → (J → Option Ω) → Option Ω} {e1 : P1 → Env} {e2 : Addr → List V → P1 → P2 → Env} {w : Option V} {xs : List (List α)} {ap cp np sp : Pos} (i : Nat) (h0 : env[i]? = some (.st w (List (List α)) (ls (ls (it E))) xs))
    (hi : LX X env ie (it eI) e1 fi) (h1 : ∀ p, (e1 p)[i]? = some (.st w (List (List α)) (ls (ls (it E))) xs)) (he : ∀ q vs p, LX X ((e1 p).set i (.st w (List (List α)) (pinL (ls (it E)) q vs) xs)) e (it E) (e2 q vs p) (f p)) (h2 : ∀ q vs p p2, (e2 q vs p p2)[i]? = some (.st w (List (List α)) (pinL (ls (it E)) q vs) xs))
    (hr : ∀ q vs j p y p2 zs, LB X SR envR kr bk ct ((e2 q vs p p2).set i (.st w (List (List α)) (ls (ls (it E))) zs)) rest envJ (fr j p y p2 zs))
    (hN : X.N[i]? = some nm := by rfl) (hv : Vis X.env.scope nm := by first | exact Or.inl rfl | exact Or.inr (Or.inl rfl) | exact Or.inr (Or.inr rfl))
    (hd : (nm == ("__debug__" : Str)) = false := by decide) (hcd : (nm == ("__classdict__" : Str)) = false := by decide) (hp : PlainIx ie := by exact fun _ _ => rfl)
    (hbase : attributeBase (.Subscript (.Name nm np) ie sp) "append" X.env (eval (.Subscript (.Name nm np) ie sp) X.env) = eval (.Subscript (.Name nm np) ie sp) X.env := by rfl)
    (hfew : ((backTo cp (starEach [e] X.env)).all (fun x => !x.1) && (backToKw cp (keywordEach [] X.env)).all (fun x => x.1.isSome) && decide ([e].length + ([] : List Keyword).length + (if ([] : List Keyword).isEmpty then 0 else 1) < 30)) = true := by rfl)
    (hline : (ap.endLine == cp.line) = true := by rfl) (hse : starEach [e] X.env = (false, eval e X.env) :: starEach [] X.env := by rfl) (hplain : (backTo cp (starEach [] X.env)).any (·.1) = false := by rfl)
    (hsw : swapsWith (.Call (.Attribute (.Subscript (.Name nm np) ie sp) "append" ap) [e] [] cp) none pos.line X.env = pure false := by rfl) :
    LB X SR envR kr bk ct env (.Expr (.Call (.Attribute (.Subscript (.Name nm np) ie sp) "append" ap) [e] [] cp) pos :: rest) envJ (fun kn => fi fun j p => (ixN xs.length j).bind fun n => f p fun y p2 => ck (decide ((xs.getD n []).length < SZ)) (fr j p y p2 (xs.set n (xs.getD n [] ++ [y])) kn)) :=
  fun C F H σs es σ kn ω D hK hl h hk qn qb qc qr => tSs.of X (pss_cons (ps_expr (pe_bm PySem.F.plainAttrs_list PySem.F.slot_list_append PySem.F.type_list_append mt_append (pe_ix ix_list (pe_var hN hv hd hcd) (peC X) hp) (pa_cons (peC X) pa_nil hse) hbase hfew hline hse hplain) hsw) (pssC X)) (by
    obtain ⟨l, fp, e1', r⟩ := h.lookF hl h0
    refine ⟨l, e1', hi C F H σs es σ _ ω _ hK hl h hk fun j p u F' H' hk' h' => ?_⟩
    have hu : u = .int j := by
      obtain ⟨v', fp, e1, r⟩ := h'.look (i := 0) rfl
      simp at e1; subst e1
      obtain ⟨_, r⟩ := r
      cases r; rfl
    subst hu
    have h3 : ER C F' H' (σs ++ σ) (es ++ e1 p) := h'.pop
    obtain ⟨n, hn, hk'⟩ := bind_some hk'
    obtain ⟨l', fp', e3, r1⟩ := h3.lookF hl (h1 p)
    rw [e1'] at e3; cases e3
    obtain ⟨q1, vs1, fps, rfl, _, _, _⟩ := r1
    obtain ⟨vs, h3p⟩ := h3.pin (i := es.length + i) (q1 := q1) (by rw [at_app _ rfl]; exact h1 p) (by rw [at_app _ hl]; exact e1')
    rw [List.set_append_right _ _ (Nat.le_add_right _ _), Nat.add_sub_cancel_left] at h3p
    have hil : i < (e1 p).length := lt_of_get (h1 p)
    obtain ⟨l5, fp5, e5, r5⟩ := h3p.lookF (i := i) hl (by rw [List.getElem?_set_self hil])
    rw [e1'] at e5; cases e5
    obtain ⟨fps5, _, hq, ra, _⟩ := r5
    have hlen := ra.length
    have hnl : n < xs.length := ixN_lt' hn
    have hx : xs[n]? = some (xs.getD n []) := by rw [List.getElem?_eq_getElem hnl, List.getD_eq_getElem?_getD, List.getElem?_eq_getElem hnl]; rfl
    obtain ⟨fp1, fq, fp2, v, efp, hvn, rv, _⟩ := ra.split hx
    obtain ⟨q2, ws, fps2, rfl, hq2, rw2, rfl⟩ := rv
    refine ⟨q1, vs, j, .ref q2, rfl, rfl, SqL.of hq, by unfold atI; rw [hlen, hn]; exact hvn, .inl ⟨rfl, ws, SqL.of hq2⟩, ?_⟩
    refine he q1 vs p C F' H' σs es σ _ ω _ hK hl h3p hk' fun y p2 v F2 H2 hk2 h4 => ?_
    obtain ⟨hc, hk2⟩ := ck_some hk2
    have hc' := of_decide_eq_true hc
    have ry : Rep C.K F2 v (E.enc y) := by
      obtain ⟨v', fp, e1, r⟩ := h4.look (i := 0) rfl
      simp at e1; subst e1
      exact r.2
    obtain ⟨l2, fp3, e4, r3, nd, ow, fin⟩ := h4.pop.mut (i := es.length + i) (by rw [at_app _ rfl]; exact h2 q1 vs p p2)
    rw [at_app _ hl, e1'] at e4
    cases e4
    obtain ⟨fps3, _, hq3, ra3, rfl⟩ := r3
    obtain ⟨gp1, gq, gp2, v3, egp, hvn3, rv3, put⟩ := ra3.split hx
    rw [hvn] at hvn3; cases hvn3
    obtain ⟨q4, ws4, fps4, e6, hq4, rw4, rfl⟩ := rv3
    cases e6
    subst egp
    obtain ⟨rfl, rp4⟩ := rw4.zero
    have hlen4 : ws4.length = (xs.getD n []).length := by have := rp4.length; simpa using this
    refine ⟨q2, ws4, v, rfl, rfl, hq4, by rw [SZ_eq]; omega, ?_⟩
    have n1 : q1 ≠ q2 := fun z => by
      have := (List.nodup_cons.mp nd).1
      exact this (by rw [z]; simp)
    have nm1 : q2 ∉ gp1 ∧ q2 ∉ gp2 := by
      have := (List.nodup_cons.mp nd).2
      rw [List.nodup_append] at this
      obtain ⟨_, h2, h3⟩ := this
      exact ⟨fun m => h3 q2 m q2 (by simp) rfl, fun m => (List.nodup_cons.mp h2).1 (by simpa using m)⟩
    have fin' := fin (List (List α)) (ls (ls (it E))) (xs.set n (xs.getD n [] ++ [y])) (upd H2 q2 (.lst (ws4 ++ [v]))) (q1 :: (gp1 ++ ([q2] ++ gp2))) (fun a na _ => upd_ne fun z => na (by rw [z]; simp)) (fun a m => ?_) ⟨q1, vs, _, rfl, by rw [upd_ne n1]; exact hq3, put _ [q2] _ (fun fr w y s z => Stor.frame _ (fun a m => upd_ne fun z => by
        rcases s a m with m | m
        · exact nm1.1 (z ▸ m)
        · exact nm1.2 (z ▸ m)) z) ⟨q2, ws4 ++ [v], [], rfl, upd_same, ?_, rfl⟩, rfl⟩ nd (fun a m => ?_)
    · rw [List.set_append_right _ _ (Nat.le_add_right _ _), Nat.add_sub_cancel_left] at fin'
      exact hr q1 vs j p y p2 _ C F2 _ σs es σ kn ω D hK hl fin' hk2 qn qb qc qr
    · by_cases z : a = q2
      · subst z; rw [upd_same]; exact fun z => by cases z
      · rw [upd_ne z]; exact m
    · have := rp4.app (.cons ry .nil)
      have e : (xs.getD n []).map E.enc ++ [E.enc y] = (xs.getD n [] ++ [y]).map E.enc := by simp
      rw [e] at this
      exact this.zero
    · refine ⟨?_, .inl m⟩
      by_cases z : a = q2
      · subst z; rw [upd_same]; exact fun z => by cases z
      · rw [upd_ne z]; exact (ow a m).2.2)
end
end Z

set_option Elab.async false
set_option linter.all false
set_option maxRecDepth 100000
namespace Z
open PySem PySem.Spec PyProof.Rows L2
theorem eLLD {τ : Type} {E : Enc τ} {a : List (List τ)} : (eL (eL eD)).enc (List.map (List.map E.enc) a) = (eL (eL E)).enc a := by simp [eL, eD]
/-! ### comprehensions of two fors, nothing changed -/
theorem wipe_same {σ σ' : List (Option V)} {vs : List Nat} (hl : σ'.length = σ.length) (h : ∀ j : Nat, j ∉ vs → σ'[j]? = σ[j]?) : wipe σ' vs = wipe σ vs := by
  apply List.ext_getElem?
  intro j
  rw [wipe_get, wipe_get]
  by_cases m : j ∈ vs
  · rw [if_pos m, if_pos m, hl]
  · rw [if_neg m, if_neg m, h j m]
theorem wipe_at {σ σ' : List (Option V)} {vs : List Nat} (h : wipe σ' vs = wipe σ vs) {j : Nat} (m : j ∉ vs) : σ'[j]? = σ[j]? := by
  have := congrArg (fun l => l[j]?) h
  simpa only [wipe_get, if_neg m] using this
theorem wipe_len {σ σ' : List (Option V)} {vs : List Nat} (h : wipe σ' vs = wipe σ vs) : σ'.length = σ.length := by
  have := congrArg List.length h
  simpa only [wipe_length] using this
theorem wipe_idem {σ : List (Option V)} {vs : List Nat} : wipe (wipe σ vs) vs = wipe σ vs := wipe_same (wipe_length _ _) fun j m => by rw [wipe_get, if_neg m]
theorem ER.wl {C : Ck} {F H : Hp} {σp σ σ' : List (Option V)} {ep env : Env} {vs : List Nat} (h : ER C F H (σp ++ σ) (ep ++ env)) (hl : σp.length = ep.length) (hu : ∀ (i : Nat) (s : Slot), i ∈ vs → env[i]? = some s → s = Slot.un) (hw : wipe σ' vs = wipe σ vs) : ER C F H (σp ++ σ') (ep ++ env) :=
  h.like hl (wipe_len hw) fun j s e => by
    by_cases m : j ∈ vs
    · exact .inl (hu j s m e)
    · exact .inr (wipe_at hw m)
section
variable {X : Cx} {Ω : Type} {env env0 : Env} {pos : Pos} {elt tg iter tg1 iter1 : Expr} {ifs1 : List Expr} {P P1 P2 P3 : Type} {α β δ : Type} {Sa : Stor α} {Sb : Stor β} {Sd : Stor δ} {e' : P → Env} {scope : Scope} {own : List (Str × Nat)} {ix ix1 : List Nat}
  {envX : α → Env} {e1 : α → P1 → Env} {envY : α → P1 → β → Env} {eT : α → P1 → β → P2 → Env} {eE : α → P1 → β → P2 → P3 → Env}
  {f : (List α → P → Option Ω) → Option Ω} {f1 : α → (List β → P1 → Option Ω) → Option Ω} {ft : α → P1 → β → (Bool → P2 → Option Ω) → Option Ω} {fe : α → P1 → β → P2 → (δ → P3 → Option Ω) → Option Ω}
def lcIn (ft : α → P1 → β → (Bool → P2 → Option Ω) → Option Ω) (fe : α → P1 → β → P2 → (δ → P3 → Option Ω) → Option Ω) (x : α) (p1 : P1) (y : β) (acc : List δ) (kc : List δ → Option Ω) : Option Ω :=
  ft x p1 y fun b p2 => if b = true then fe x p1 y p2 fun z _ => ck (decide (acc.length < SZ)) (kc (acc ++ [z])) else kc acc
def lcOut (f1 : α → (List β → P1 → Option Ω) → Option Ω) (ft : α → P1 → β → (Bool → P2 → Option Ω) → Option Ω) (fe : α → P1 → β → P2 → (δ → P3 → Option Ω) → Option Ω) (x : α) (acc : List δ) (kc : List δ → Option Ω) : Option Ω :=
  f1 x fun ys p1 => forO ys acc (lcIn ft fe x p1) kc
theorem lc2_run (hi : LI X env tg iter Sa e' f) (h0 : ∀ p, Sub (e' p) env0) (hu : ∀ (i : Nat) (s : Slot), i ∈ own.map (·.2) → env0[i]? = some s → s = Slot.un)
    (hsub : ∀ i ∈ ix, i ∈ own.map (·.2)) (hsub1 : ∀ i ∈ ix1, i ∈ own.map (·.2))
    (hg : ∀ Y, Blk X scope Y → LG Y ix env0 tg Sa envX) (hi1 : ∀ Y, Blk X scope Y → ∀ x, LI Y (envX x) tg1 iter1 Sb (e1 x) (f1 x)) (hu1 : ∀ (x : α) (p : P1) (i : Nat) (s : Slot), i ∈ ix1 → (e1 x p)[i]? = some s → s = Slot.un)
    (hg1 : ∀ Y, Blk X scope Y → ∀ x p, LG Y ix1 (e1 x p) tg1 Sb (envY x p)) (ht : ∀ Y, Blk X scope Y → ∀ x p y, LTl Y (envY x p y) ifs1 (eT x p y) (ft x p y)) (he : ∀ Y, Blk X scope Y → ∀ x p y q, LX Y (eT x p y q) elt Sd (eE x p y q) (fe x p y q))
    (hn : ∀ x p y q r, Sub (eE x p y q r) (e1 x p)) (hf : ∀ x p y q, Sub (eT x p y q) (e1 x p)) (hb : ∀ x p, Sub (e1 x p) env0)
    {C : Ck} {F H : Hp} {σs : List (Option V)} {es : Env} {σ : List (Option V)} {k : List δ → Unit → Option Ω} {ω : Ω} {Q : VK} (hK : C.K = X.K) (hl : σs.length = es.length) (h : ER C F H (σs ++ σ) (es ++ env))
    (hk : (f fun xs _ => forO xs [] (lcOut f1 ft fe) fun acc => k acc ()) = some ω)
    (q : ∀ ys v F' H', k ys () = some ω → ER C F' H' (some v :: (σs ++ σ)) (.st none (List δ) (ls Sd) ys :: (es ++ env0)) → Q v H') :
    tLc2 (tI X tg iter) (fun v σ H Q => ∀ Y, Blk X scope Y → tG Y tg v σ H Q) (fun σ H Q => ∀ Y, Blk X scope Y → tTl Y [] σ H Q) (fun σ H R => ∀ Y, Blk X scope Y → tI Y tg1 iter1 σ H R) (fun v σ H Q => ∀ Y, Blk X scope Y → tG Y tg1 v σ H Q) (fun σ H Q => ∀ Y, Blk X scope Y → tTl Y ifs1 σ H Q) (fun σ H Q => ∀ Y, Blk X scope Y → tE Y elt σ H Q) (own.map (·.2)) ix1 σ H Q := by
  refine hi C F H σs es σ _ ω _ hK hl h hk fun xs p J F' H' σx ex hk' h' hy => ?_
  intro D nD
  have hnew : ER C F' (upd H' D (.lst [])) (some (.ref D) :: (σx ++ (σs ++ σ))) (.st none (List δ) (ls Sd) [] :: (ex ++ (es ++ e' p))) := h'.newOw nD ⟨D, [], [], rfl, upd_same, .nil, rfl⟩
  refine ⟨fun i m H2 => m = xs.length - i ∧ i ≤ xs.length ∧ ∃ acc F2, ER C F2 H2 (some (.ref D) :: (σx ++ (σs ++ σ))) (.st none (List δ) (ls Sd) acc :: (ex ++ (es ++ env0))) ∧ forO (xs.drop i) acc (lcOut f1 ft fe) (fun acc => k acc ()) = some ω,
    ⟨xs.length, by simp, Nat.zero_le _, [], F', ER.sub hnew (.keep (((h0 p).pre es).pre ex)), by simpa using hk'⟩, ?_⟩
  rintro i m H2 ⟨rfl, hi', acc, F2, h2, hk2⟩
  obtain ⟨y1, y2⟩ := hy.go i F2 H2 [some (.ref D)] (σs ++ σ) [.st none (List δ) (ls Sd) acc] (es ++ env0) rfl h2
  by_cases hlt : i < xs.length
  rotate_left
  · have e : i = xs.length := by omega
    subst e
    refine .inl ⟨y2 (by simp), q acc (.ref D) F2 H2 (by simpa [forO] using hk2) ?_⟩
    have h3 : ER C F2 H2 (σx ++ some (.ref D) :: (σs ++ σ)) (ex ++ .st none (List δ) (ls Sd) acc :: (es ++ env0)) := ER.unrot h2 hy.len
    exact h3.popN hy.len
  have ex1 : xs[i]? = some xs[i] := List.getElem?_eq_getElem hlt
  obtain ⟨g1, g2⟩ := y1 _ ex1
  have ed : xs.drop i = xs[i] :: xs.drop (i + 1) := List.drop_eq_getElem_cons hlt
  rw [ed] at hk2
  generalize xs[i] = x at ex1 g2 hk2
  refine .inr ⟨g1, fun H3 => ∃ acc F3, ER C F3 H3 (some (.ref D) :: (σx ++ (σs ++ σ))) (.st none (List δ) (ls Sd) acc :: (ex ++ (es ++ env0))) ∧ forO (xs.drop (i + 1)) acc (lcOut f1 ft fe) (fun acc => k acc ()) = some ω,
    fun H3 ⟨acc3, F3, h3, hk3⟩ => ⟨xs.length - (i + 1), by omega, rfl, hlt, acc3, F3, h3, hk3⟩, fun v H3 hv Y bY => ?_⟩
  have YK : C.K = Y.K := by obtain ⟨_, _, _, _, _, rfl⟩ := bY.is; exact hK
  obtain ⟨F3, h3⟩ := g2 v H3 hv
  have lenp : ((some (.ref D) : Option V) :: (σx ++ σs)).length = ((.st none (List δ) (ls Sd) acc : Slot) :: (ex ++ es)).length := by simp [hl, hy.len]
  have h3' : ER C F3 H3 ((some v :: some (.ref D) :: (σx ++ σs)) ++ wipe σ (own.map (·.2))) ((.st none α Sa x :: .st none (List δ) (ls Sd) acc :: (ex ++ es)) ++ env0) :=
    ER.wl (σ := σ) (vs := own.map (·.2)) (by simpa [List.append_assoc] using h3) (by simp [hl, hy.len]) hu wipe_idem
  refine hg Y bY C F3 H3 (some (.ref D) :: (σx ++ σs)) (.st none (List δ) (ls Sd) acc :: (ex ++ es)) (wipe σ (own.map (·.2))) v x _ YK lenp (by simpa [List.append_assoc] using h3') fun σ4 e4 h4 => ?_
  have hw4 : wipe σ4 (own.map (·.2)) = wipe σ (own.map (·.2)) := (wipe_same e4.1 fun j m => e4.2 j fun z => m (hsub j z)).trans wipe_idem
  refine ⟨hw4, fun Y bY => ?_⟩
  refine tTl.of Y pts_nil ?_
  unfold tYes
  refine Eq.mpr (if_pos rfl) ?_
  intro Y bY
  have YK : C.K = Y.K := by obtain ⟨_, _, _, _, _, rfl⟩ := bY.is; exact hK
  refine hi1 Y bY x C F3 H3 (some (.ref D) :: (σx ++ σs)) (.st none (List δ) (ls Sd) acc :: (ex ++ es)) σ4 _ ω _ YK lenp h4 hk2 fun ys p1 J1 F5 H5 σy ey hk5 h5 hy1 => ?_
  have lenq : ∀ a : List δ, (σy ++ (some (.ref D) :: (σx ++ σs)) : List (Option V)).length = (ey ++ ((.st none (List δ) (ls Sd) a : Slot) :: (ex ++ es))).length := fun a => by simp [hl, hy.len, hy1.len]
  refine ⟨fun j m H6 => m = ys.length - j ∧ j ≤ ys.length ∧ ∃ acc F6, ER C F6 H6 (σy ++ ((some (.ref D) :: (σx ++ σs)) ++ σ4)) (ey ++ ((.st none (List δ) (ls Sd) acc :: (ex ++ es)) ++ e1 x p1)) ∧ forO (ys.drop j) acc (lcIn ft fe x p1) (fun acc => forO (xs.drop (i + 1)) acc (lcOut f1 ft fe) fun acc => k acc ()) = some ω,
    ⟨ys.length, by simp, Nat.zero_le _, acc, F5, h5, by simpa using hk5⟩, ?_⟩
  rintro j m H6 ⟨rfl, hj', acc, F6, h6, hk6⟩
  obtain ⟨z1, z2⟩ := hy1.go j F6 H6 [] _ [] _ rfl h6
  by_cases hlt1 : j < ys.length
  rotate_left
  · have e : j = ys.length := by omega
    subst e
    refine .inl ⟨z2 (by simp), acc, F6, ?_, by simpa [forO] using hk6⟩
    have h7 : ER C F6 H6 ((some (.ref D) :: (σx ++ σs)) ++ σ4) ((.st none (List δ) (ls Sd) acc :: (ex ++ es)) ++ env0) := (h6.popN hy1.len).subF (hb x p1)
    have h8 := ER.wl (σ' := σ) h7 (by simp [hl, hy.len]) hu hw4.symm
    simpa [List.append_assoc] using h8
  have ey1 : ys[j]? = some ys[j] := List.getElem?_eq_getElem hlt1
  obtain ⟨w1, w2⟩ := z1 _ ey1
  have ed1 : ys.drop j = ys[j] :: ys.drop (j + 1) := List.drop_eq_getElem_cons hlt1
  rw [ed1] at hk6
  generalize ys[j] = y at ey1 w2 hk6
  refine .inr ⟨w1, fun H7 => ∃ acc F7, ER C F7 H7 (σy ++ ((some (.ref D) :: (σx ++ σs)) ++ σ4)) (ey ++ ((.st none (List δ) (ls Sd) acc :: (ex ++ es)) ++ e1 x p1)) ∧ forO (ys.drop (j + 1)) acc (lcIn ft fe x p1) (fun acc => forO (xs.drop (i + 1)) acc (lcOut f1 ft fe) fun acc => k acc ()) = some ω,
    fun H7 ⟨acc7, F7, h7, hk7⟩ => ⟨ys.length - (j + 1), by omega, rfl, hlt1, acc7, F7, h7, hk7⟩, fun v7 H7 hv7 Y bY => ?_⟩
  have YK : C.K = Y.K := by obtain ⟨_, _, _, _, _, rfl⟩ := bY.is; exact hK
  obtain ⟨F7, h7⟩ := w2 v7 H7 hv7
  have h7' : ER C F7 H7 ((some v7 :: (σy ++ (some (.ref D) :: (σx ++ σs)))) ++ wipe σ4 ix1) ((.st none β Sb y :: (ey ++ (.st none (List δ) (ls Sd) acc :: (ex ++ es)))) ++ e1 x p1) :=
    ER.wl (σ := σ4) (vs := ix1) (by simpa [List.append_assoc] using h7) (by have := lenq acc; simp at this ⊢; omega) (hu1 x p1) wipe_idem
  refine hg1 Y bY x p1 C F7 H7 (σy ++ (some (.ref D) :: (σx ++ σs))) (ey ++ (.st none (List δ) (ls Sd) acc :: (ex ++ es))) (wipe σ4 ix1) v7 y _ YK (lenq acc) (by simpa [List.append_assoc] using h7') fun σ5 e5 h8 => ?_
  have hw5 : wipe σ5 ix1 = wipe σ4 ix1 := (wipe_same e5.1 fun j m => e5.2 j m).trans wipe_idem
  refine ⟨hw5, fun Y bY => ?_⟩
  have YK : C.K = Y.K := by obtain ⟨_, _, _, _, _, rfl⟩ := bY.is; exact hK
  refine ht Y bY x p1 y C F7 H7 (σy ++ (some (.ref D) :: (σx ++ σs))) (ey ++ (.st none (List δ) (ls Sd) acc :: (ex ++ es))) σ5 _ ω _ YK (lenq acc) h8 hk6 fun bb p2 F8 H8 hk8 h9 => ?_
  cases bb with
  | false =>
    rw [if_neg Bool.false_ne_true] at hk8 ⊢
    have h10 := h9.subF (hf x p1 y p2)
    have h11 := ER.wl (σ' := σ4) h10 (lenq acc) (hu1 x p1) hw5.symm
    exact ⟨acc, F8, by simpa [List.append_assoc] using h11, hk8⟩
  | true =>
    rw [if_pos rfl] at hk8 ⊢
    intro Y bY
    have YK : C.K = Y.K := by obtain ⟨_, _, _, _, _, rfl⟩ := bY.is; exact hK
    refine he Y bY x p1 y p2 C F8 H8 (σy ++ (some (.ref D) :: (σx ++ σs))) (ey ++ (.st none (List δ) (ls Sd) acc :: (ex ++ es))) σ5 _ ω _ YK (lenq acc) h9 hk8 fun z p3 u F9 H9 hk9 h10 => ?_
    have h11 : ER C F9 H9 (some u :: (σy ++ (some (.ref D) :: (σx ++ (σs ++ σ5))))) (.st none δ Sd z :: (ey ++ (.st none (List δ) (ls Sd) acc :: (ex ++ (es ++ eE x p1 y p2 p3))))) := by simpa [List.append_assoc] using h10
    obtain ⟨hc, hk9⟩ := ck_some hk9
    obtain ⟨v', fp', v0, fq, a2, a3, r1, r2, nd, ow, fin⟩ := h11.absorb (i := ey.length) (w := none) (τ := List δ) (S := ls Sd) (x := acc) (by rw [List.getElem?_append_right (Nat.le_refl _)]; simp)
    rw [← hy1.len, List.getElem?_append_right (Nat.le_refl _), Nat.sub_self] at a2
    simp at a2 a3; subst a2; subst a3
    obtain ⟨q1, vs, fps, e4', hq, ra, rfl⟩ := r1
    cases e4'
    have hlen := ra.length
    have hc' := of_decide_eq_true hc
    refine ⟨vs, hq, by rw [SZ_eq]; omega, acc ++ [z], F9, ?_, hk9⟩
    have nm : D ∉ fps ++ fq := by
      have : (D :: (fps ++ fq)).Nodup := by simpa using nd
      exact (List.nodup_cons.mp this).1
    have fin' := fin (List δ) (ls Sd) (acc ++ [z]) (upd H9 D (.lst (vs ++ [u]))) (D :: (fps ++ fq)) (fun a na _ => upd_ne fun z => na (by rw [z]; simp)) (fun a m => by
      by_cases z : a = D
      · subst z; rw [upd_same]; exact fun z => by cases z
      · rw [upd_ne z]; exact m) ⟨D, vs ++ [u], fps ++ fq, rfl, upd_same, RelAll.imp (fun fr' v' x' s q => Sd.frame (fun a m => upd_ne fun z => nm (z ▸ s a m)) q) (ra.app r2), rfl⟩ (by simpa using nd) (fun a m => by
      refine ⟨?_, .inl (by simpa using m)⟩
      by_cases z : a = D
      · subst z; rw [upd_same]; exact fun z => by cases z
      · rw [upd_ne z]; exact (ow a (by simpa using m)).2.2)
    rw [List.set_append_right _ _ (Nat.le_refl _), Nat.sub_self, List.set_cons_zero] at fin'
    have h12 : ER C F9 (upd H9 D (.lst (vs ++ [u]))) ((σy ++ (some (.ref D) :: (σx ++ σs))) ++ σ5) ((ey ++ (.st none (List δ) (ls Sd) (acc ++ [z]) :: (ex ++ es))) ++ eE x p1 y p2 p3) := by simpa [List.append_assoc] using fin'
    have h13 := h12.subF (hn x p1 y p2 p3)
    have h14 := ER.wl (σ' := σ4) h13 (lenq _) (hu1 x p1) hw5.symm
    simpa [List.append_assoc] using h14
/-- [.. for .. in .. for .. in .. if ..] -/
theorem lx_lc2 (hc : X.calm = true) (hN : X.N.Nodup) (ok : BlkOk X.N X.env.scope scope own) (hi : LI X env tg iter Sa e' f) (env0 : Env) (h0 : ∀ p, Sub (e' p) env0) (hu : ∀ (i : Nat) (s : Slot), i ∈ own.map (·.2) → env0[i]? = some s → s = Slot.un)
    (hg : ∀ (s : Shared) (H : Hp) (C : Addr) (cl : List (Str × Addr)) (fp : List Addr), LG (X.blk s H scope (compEnvC scope cl C X.env) fp) ix env0 tg Sa envX) (hi1 : ∀ (s : Shared) (H : Hp) (C : Addr) (cl : List (Str × Addr)) (fp : List Addr) x, LI (X.blk s H scope (compEnvC scope cl C X.env) fp) (envX x) tg1 iter1 Sb (e1 x) (f1 x))
    (hg1 : ∀ (s : Shared) (H : Hp) (C : Addr) (cl : List (Str × Addr)) (fp : List Addr) x p, LG (X.blk s H scope (compEnvC scope cl C X.env) fp) ix1 (e1 x p) tg1 Sb (envY x p)) (ht : ∀ (s : Shared) (H : Hp) (C : Addr) (cl : List (Str × Addr)) (fp : List Addr) x p y, LTl (X.blk s H scope (compEnvC scope cl C X.env) fp) (envY x p y) ifs1 (eT x p y) (ft x p y)) (he : ∀ (s : Shared) (H : Hp) (C : Addr) (cl : List (Str × Addr)) (fp : List Addr) x p y q, LX (X.blk s H scope (compEnvC scope cl C X.env) fp) (eT x p y q) elt Sd (eE x p y q) (fe x p y q))
    (hu1 : ∀ (x : α) (p : P1) (i : Nat) (s : Slot), i ∈ ix1 → (e1 x p)[i]? = some s → s = Slot.un) (hn : ∀ x p y q r, Sub (eE x p y q r) (e1 x p)) (hf : ∀ x p y q, Sub (eT x p y q) (e1 x p)) (hb : ∀ x p, Sub (e1 x p) env0)
    (hsub : ∀ i ∈ ix, i ∈ own.map (·.2) := by decide) (hsub1 : ∀ i ∈ ix1, i ∈ own.map (·.2) := by decide)
    (hs : ∀ x, foldedSetIterable iter X.env x = pure x := by intro _; rfl) (hs1 : ∀ (e : PySem.Env) (x : Value), foldedSetIterable iter1 e x = pure x := by intro _ _; rfl) :
    LX X env (.ListComp elt [⟨tg, iter, [], 0⟩, ⟨tg1, iter1, ifs1, 0⟩] scope pos) (ls Sd) (fun _ : Unit => env0) (fun k => f fun xs _ => forO xs [] (lcOut f1 ft fe) fun acc => k acc ()) :=
  fun C F H σs es σ k ω Q hK hl h hk q => tE.of X (pe_lc2 hc hN (piC X) ok hsub1
      (fun s H C cl fp => ⟨fun pins s' σ H' v u Q I r h => h _ ⟨s, H, C, cl, fp, rfl⟩ pins s' u I r⟩) (fun s H C cl fp => ⟨fun pins s' σ H' Q I h => h _ ⟨s, H, C, cl, fp, rfl⟩ pins s' I⟩)
      (fun s H C cl fp => ⟨fun pins s' σ H' R I h => h _ ⟨s, H, C, cl, fp, rfl⟩ pins s' I⟩) (fun s H C cl fp => ⟨fun pins s' σ H' v u Q I r h => h _ ⟨s, H, C, cl, fp, rfl⟩ pins s' u I r⟩) (fun s H C cl fp => ⟨fun pins s' σ H' Q I h => h _ ⟨s, H, C, cl, fp, rfl⟩ pins s' I⟩) (fun s H C cl fp => ⟨fun pins s' σ H' Q I h => h _ ⟨s, H, C, cl, fp, rfl⟩ pins s' I⟩) hs hs1)
    (lc2_run hi h0 hu hsub hsub1 (fun Y bY => by obtain ⟨s, H, C, cl, fp, rfl⟩ := bY.is; exact hg s H C cl fp) (fun Y bY => by obtain ⟨s, H, C, cl, fp, rfl⟩ := bY.is; exact hi1 s H C cl fp) hu1 (fun Y bY => by obtain ⟨s, H, C, cl, fp, rfl⟩ := bY.is; exact hg1 s H C cl fp) (fun Y bY => by obtain ⟨s, H, C, cl, fp, rfl⟩ := bY.is; exact ht s H C cl fp) (fun Y bY => by obtain ⟨s, H, C, cl, fp, rfl⟩ := bY.is; exact he s H C cl fp) hn hf hb hK hl h hk (fun ys v F' H' hk' h' => q ys () v F' H' hk' h'))
end
section
variable {X : Cx} {Ω : Type} {env : Env} {nm : Str} {pos : Pos} {a b e tg : Expr} {xs tgs : List Expr} {P P1 P2 A : Type} {τ τ1 τ2 α β : Type} {S : Stor τ} {S1 : Stor τ1} {S2 : Stor τ2} {E : Enc τ} {E1 : Enc τ1} {E2 : Enc τ2} {ix : List Nat} {e' : P → Env} {e1 : P1 → Env} {e2 : P1 → P2 → Env}
/-- a walk over a tuple of one kind -/
theorem li_tup {g : τ → List α} {Ea : Enc α} {f : (τ → P → Option Ω) → Option Ω} (hv : TVw S (it Ea) g) (h : LX X env e S e' f) : LI X env tg e (it Ea) e' (fun k => f fun x p => k (g x) p) :=
  fun C F H σs es σ k ω R hK hl hr hk q => tI.of X (pi_tup (peC X)) (h C F H σs es σ _ ω _ hK hl hr hk fun x p v F' H' hk' h' => by
    obtain ⟨v', fp, e1, r⟩ := h'.look (i := 0) rfl
    simp at e1; subst e1
    obtain ⟨p0, vs, fps, rfl, hs, ra⟩ := hv.view h'.sF r
    refine ⟨p0, rfl, ⟨vs, by rw [← hK]; exact hs⟩, q (g x) p (Itt X.K p0) F' H' [some (.ref p0)] [.st none τ S x] hk' h' ⟨rfl, fun i F2 H2 σ2 σb e2 eb hl2 h2 => ?_⟩⟩
    obtain ⟨v', fp', e1, r'⟩ := h2.look (i := e2.length + 0) (by rw [at_app _ rfl]; rfl)
    rw [at_app _ hl2] at e1
    simp at e1; subst e1
    obtain ⟨p1, ws, fps', e3, hs', ra'⟩ := hv.view h2.sF r'
    cases e3
    rw [hK] at hs'
    have rp := ra'.zero.2
    refine ⟨fun y hy => ?_, fun hn => ?_⟩
    · obtain ⟨w, hw, rw'⟩ := rp.get (i := i) (d := Ea.enc y) (by rw [List.getElem?_map, hy]; rfl)
      refine ⟨⟨ws, w, hs', hw⟩, fun v H' hy' => ⟨F2, ?_⟩⟩
      obtain ⟨e4, hy'⟩ := hy'
      have := hy' ws hs'
      rw [hw] at this; cases this
      rw [e4]
      exact h2.pushSh rw'
    · refine ⟨ws, hs', ?_⟩
      have := rp.length
      simp at this
      have := List.getElem?_eq_none_iff.mp hn
      omega)
end
section
variable {X : Cx} {Ω : Type} {env : Env} {nm : Str} {pos : Pos} {a b c e : Expr} {xs rest : List Expr} {P P1 P2 P3 A : Type} {τ τ1 τ2 α β : Type} {S : Stor τ} {S1 : Stor τ1} {S2 : Stor τ2} {E : Enc τ} {E1 : Enc τ1} {E2 : Enc τ2}
/-- a if c else b, whose branches change things: what is left is told by j -/
theorem lx_ifJ {Pj : Type} (envJ : Pj → Env) {e2 : P1 → P2 → Env} {e3 : P1 → P3 → Env} {fc : (Bool → P1 → Option Ω) → Option Ω} {fa : P1 → (τ → P2 → Option Ω) → Option Ω} {fb : P1 → (τ → P3 → Option Ω) → Option Ω} (hc : LT X env c e1 fc) (ha : ∀ p1, LX X (e1 p1) a S (e2 p1) (fa p1)) (hb : ∀ p1, LX X (e1 p1) b S (e3 p1) (fb p1))
    (ja : P1 → P2 → Pj) (jb : P1 → P3 → Pj) (hs : ∀ p1 p2, Sub (e2 p1 p2) (envJ (ja p1 p2))) (hs3 : ∀ p1 p3, Sub (e3 p1 p3) (envJ (jb p1 p3))) :
    LX X env (.IfExp c a b pos) S envJ (fun k => fc fun x p1 => if x = true then fa p1 fun y p2 => k y (ja p1 p2) else fb p1 fun y p3 => k y (jb p1 p3)) :=
  fun C F H σs es σ k ω Q hK hl hr hk q => tE.of X (pe_ifExp (ptC X) (peC X) (peC X)) (hc C F H σs es σ _ ω _ hK hl hr hk fun x p1 F' H' hk' h' => by
    cases x with
    | true => rw [if_pos rfl] at hk' ⊢; exact ha p1 C F' H' σs es σ _ ω Q hK hl h' hk' fun y p2 u F2 H2 hk2 h2 => q y (ja p1 p2) u F2 H2 hk2 (ER.sub h2 (.keep ((hs p1 p2).pre es)))
    | false => rw [if_neg Bool.false_ne_true] at hk' ⊢; exact hb p1 C F' H' σs es σ _ ω Q hK hl h' hk' fun y p3 u F2 H2 hk2 h2 => q y (jb p1 p3) u F2 H2 hk2 (ER.sub h2 (.keep ((hs3 p1 p3).pre es))))
end
end Z

set_option Elab.async false
set_option linter.all false
set_option maxRecDepth 100000
namespace Z
open PySem PySem.Spec PyProof.Rows L2
/-! ### x[i][j] of a list of own lists -/
theorem ER.unpin {α : Type} {C : Ck} {F H : Hp} {σ : List (Option V)} {env : Env} {w : Option V} {Sa : Stor α} {xs : List α} {i : Nat} {q : Addr} {vs : List V} (h : ER C F H σ env) (e : env[i]? = some (.st w (List α) (pinL Sa q vs) xs)) : ER C F H σ (env.set i (.st w (List α) (ls Sa) xs)) := by
  obtain ⟨v, fp, e1, r, nd, ow, fin⟩ := h.mut e
  obtain ⟨fps, rfl, hq, ra, rfl⟩ := r
  exact fin (List α) (ls Sa) xs H (q :: fps) (fun _ _ _ => rfl) (fun _ m => m) ⟨q, vs, fps, rfl, hq, ra, rfl⟩ nd fun a m => ⟨(ow a m).2.2, .inl m⟩
section
variable {X : Cx} {R I Ω : Type} {SR : Stor R} {envR : I → Env} {kr : R → I → Option Ω} {bk ct : Lp Ω} {env : Env} {nm : Str} {pos sp np : Pos} {e ie je : Expr} {rest : List Stmt} {P0 P1 P2 α : Type} {E : Enc α} {J : Type} {envJ : J → Env}
theorem lx_ixM {fi : (Int → P1 → Option Ω) → Option Ω} {fj : P1 → (Int → P2 → Option Ω) → Option Ω} {e1 : P1 → Env} {e2 : Addr → List V → P1 → P2 → Env} {w : Option V} {xs : List (List α)} (i : Nat) (h0 : env[i]? = some (.st w (List (List α)) (ls (ls (it E))) xs))
    (hi : LX X env ie (it eI) e1 fi) (h1 : ∀ p, (e1 p)[i]? = some (.st w (List (List α)) (ls (ls (it E))) xs)) (hj : ∀ q vs p, LX X ((e1 p).set i (.st w (List (List α)) (pinL (ls (it E)) q vs) xs)) je (it eI) (e2 q vs p) (fj p)) (h2 : ∀ q vs p p2, e2 q vs p p2 = (e1 p).set i (.st w (List (List α)) (pinL (ls (it E)) q vs) xs))
    (hN : X.N[i]? = some nm := by rfl) (hv : Vis X.env.scope nm := by first | exact Or.inl rfl | exact Or.inr (Or.inl rfl) | exact Or.inr (Or.inr rfl))
    (hd : (nm == ("__debug__" : Str)) = false := by decide) (hcd : (nm == ("__classdict__" : Str)) = false := by decide) (hp : PlainIx ie := by exact fun _ _ => rfl) (hp2 : PlainIx je := by exact fun _ _ => rfl) :
    LX X env (.Subscript (.Subscript (.Name nm np) ie sp) je pos) (it E) e1 (fun k => fi fun a p => (ixN xs.length a).bind fun n => fj p fun b _ => (atI (xs.getD n []) b).bind fun y => k y p) :=
  fun C F H σs es σ k ω Q hK hl h hk q => tE.of X (pe_ix ix_list (pe_ix ix_list (pe_var hN hv hd hcd) (peC X) hp) (peC X) hp2) (by
    obtain ⟨l, fp, e1', r⟩ := h.lookF hl h0
    refine ⟨l, e1', hi C F H σs es σ _ ω _ hK hl h hk fun j p u F' H' hk' h' => ?_⟩
    have hu : u = .int j := by
      obtain ⟨v', fp, e1, r⟩ := h'.look (i := 0) rfl
      simp at e1; subst e1
      obtain ⟨_, r⟩ := r
      cases r; rfl
    subst hu
    have h3 : ER C F' H' (σs ++ σ) (es ++ e1 p) := h'.pop
    obtain ⟨n, hn, hk'⟩ := bind_some hk'
    obtain ⟨l', fp', e3, r1⟩ := h3.lookF hl (h1 p)
    rw [e1'] at e3; cases e3
    obtain ⟨q1, vs1, fps, rfl, _, _, _⟩ := r1
    obtain ⟨vs, h3p⟩ := h3.pin (i := es.length + i) (q1 := q1) (by rw [at_app _ rfl]; exact h1 p) (by rw [at_app _ hl]; exact e1')
    rw [List.set_append_right _ _ (Nat.le_add_right _ _), Nat.add_sub_cancel_left] at h3p
    have hil : i < (e1 p).length := lt_of_get (h1 p)
    obtain ⟨l5, fp5, e5, r5⟩ := h3p.lookF (i := i) hl (by rw [List.getElem?_set_self hil])
    rw [e1'] at e5; cases e5
    obtain ⟨fps5, _, hq, ra, _⟩ := r5
    have hlen := ra.length
    have hnl : n < xs.length := ixN_lt' hn
    have hx : xs[n]? = some (xs.getD n []) := by rw [List.getElem?_eq_getElem hnl, List.getD_eq_getElem?_getD, List.getElem?_eq_getElem hnl]; rfl
    obtain ⟨fp1, fq, fp2, v, efp, hvn, rv, _⟩ := ra.split hx
    obtain ⟨q2, ws, fps2, rfl, hq2, rw2, rfl⟩ := rv
    refine ⟨q1, vs, j, .ref q2, rfl, rfl, SqL.of hq, by unfold atI; rw [hlen, hn]; exact hvn, ?_⟩
    refine hj q1 vs p C F' H' σs es σ _ ω _ hK hl h3p hk' fun b p2 v F2 H2 hk2 h4 => ?_
    obtain ⟨y, hy, hk2⟩ := bind_some hk2
    have hv2 : v = .int b := by
      obtain ⟨v', fp, e1, r⟩ := h4.look (i := 0) rfl
      simp at e1; subst e1
      obtain ⟨_, r⟩ := r
      cases r; rfl
    subst hv2
    have h5 : ER C F2 H2 (σs ++ σ) (es ++ (e1 p).set i (.st w (List (List α)) (pinL (ls (it E)) q1 vs) xs)) := by have := h4.pop; rw [h2 q1 vs p p2] at this; exact this
    obtain ⟨l6, fp6, e6, r6⟩ := h5.lookF (i := i) hl (by rw [List.getElem?_set_self hil])
    rw [e1'] at e6; cases e6
    obtain ⟨fps6, _, hq6, ra6, _⟩ := r6
    obtain ⟨gp1, gq, gp2, v6, egp, hvn6, rv6, _⟩ := ra6.split hx
    rw [hvn] at hvn6; cases hvn6
    obtain ⟨q4, ws4, fps4, e7, hq4, rw4, rfl⟩ := rv6
    cases e7
    obtain ⟨w', hw', rw'⟩ := rw4.zero.2.at hy
    have h6 : ER C F2 H2 (σs ++ σ) (es ++ e1 p) := by
      have := h5.unpin (i := es.length + i) (by rw [at_app _ rfl, List.getElem?_set_self hil])
      rw [List.set_append_right _ _ (Nat.le_add_right _ _), Nat.add_sub_cancel_left, List.set_set] at this
      have e8 : (e1 p).set i (.st w (List (List α)) (ls (ls (it E))) xs) = e1 p := by
        refine List.ext_getElem? fun m => ?_
        rw [List.getElem?_set]
        split
        · rename_i z; subst z; exact (h1 p).symm
        · rfl
      rw [e8] at this; exact this
    exact ⟨q2, ws4, b, w', rfl, rfl, by rw [← hK]; exact SqL.of hq4, hw', q y p w' F2 H2 hk2 (h6.pushSh rw')⟩)
/-- x[i][j] = e, x a list of own lists -/
theorem lb_setIx2 {f : (α → P0 → Option Ω) → Option Ω} {fi : α → P0 → (Int → P1 → Option Ω) → Option Ω} {fj : α → P0 → P1 → (Int → P2 → Option Ω) → Option Ω} {fr : α → P0 → Int → P1 → Int → P2 → List (List α) → (J → Option Ω) → Option Ω} {e0 : P0 → Env} {e1 : α → P0 → P1 → Env} {e2 : Addr → List V → α → P0 → P1 → P2 → Env} {w : Option V} {xs : α → P0 → P1 → List (List α)} {x0 : P0 → List (List α)} (i : Nat)
    (he : LX X env e (it E) e0 f) (h0 : ∀ p, (e0 p)[i]? = some (.st w (List (List α)) (ls (ls (it E))) (x0 p))) (hi : ∀ y p, LX X (e0 p) ie (it eI) (e1 y p) (fi y p)) (h1 : ∀ y p p1, (e1 y p p1)[i]? = some (.st w (List (List α)) (ls (ls (it E))) (xs y p p1)))
    (hj : ∀ q vs y p p1, LX X ((e1 y p p1).set i (.st w (List (List α)) (pinL (ls (it E)) q vs) (xs y p p1))) je (it eI) (e2 q vs y p p1) (fj y p p1)) (h2 : ∀ q vs y p p1 p2, (e2 q vs y p p1 p2)[i]? = some (.st w (List (List α)) (pinL (ls (it E)) q vs) (xs y p p1)))
    (hr : ∀ q vs y p a p1 b p2 zs, LB X SR envR kr bk ct ((e2 q vs y p p1 p2).set i (.st w (List (List α)) (ls (ls (it E))) zs)) rest envJ (fr y p a p1 b p2 zs))
    (hN : X.N[i]? = some nm := by rfl) (hv : Vis X.env.scope nm := by first | exact Or.inl rfl | exact Or.inr (Or.inl rfl) | exact Or.inr (Or.inr rfl))
    (hd : (nm == ("__debug__" : Str)) = false := by decide) (hcd : (nm == ("__classdict__" : Str)) = false := by decide) (hp : PlainIx ie := by exact fun _ _ => rfl)
    (ha2 : ∀ v, assign (.Subscript (.Subscript (.Name nm np) ie sp) je pos) X.env v = (do
      let ov ← holding [v] (eval (.Subscript (.Name nm np) ie sp) X.env)
      let iv ← holding [v, ov] (eval je X.env)
      standAt pos
      holding [v, ov, iv] (setItem ov iv v)
      release [v, ov, iv] []) := by intro _; rfl)
    {spos : Pos} (hs : swapsWithSole [.Subscript (.Subscript (.Name nm np) ie sp) je pos] e spos.line X.env = pure false := by rfl) (hw : swappedStores [.Subscript (.Subscript (.Name nm np) ie sp) je pos] e X.env = pure none := by rfl) (ha1 : (assignEach [.Subscript (.Subscript (.Name nm np) ie sp) je pos] X.env).map (·.2) = [assign (.Subscript (.Subscript (.Name nm np) ie sp) je pos) X.env] := by rfl) :
    LB X SR envR kr bk ct env (.Assign [.Subscript (.Subscript (.Name nm np) ie sp) je pos] e spos :: rest) envJ (fun kn => f fun y p => fi y p fun a p1 => (ixN (xs y p p1).length a).bind fun n => fj y p p1 fun b p2 => (ixN ((xs y p p1).getD n []).length b).bind fun m => fr y p a p1 b p2 ((xs y p p1).set n (((xs y p p1).getD n []).set m y)) kn) :=
  fun C F H σs es σ kn ω D hK hl h hk qn qb qc qr => tSs.of X (pss_cons (ps_asg (peC X) (pg_sub (pe_ix ix_list (pe_var hN hv hd hcd) (peC X) hp) (peC X) set_list ha2) hs hw ha1) (pssC X)) (he C F H σs es σ _ ω _ hK hl h hk fun y p v F' H' hk' h' => by
    obtain ⟨l, fp, e3, r⟩ := h'.pop.lookF hl (h0 p)
    refine ⟨l, e3, hi y p C F' H' (some v :: σs) (.st none α (it E) y :: es) σ _ ω _ hK (by simp [hl]) h' hk' fun a p1 u F2 H2 hk2 h3 => ?_⟩
    obtain ⟨n, hn, hk2⟩ := bind_some hk2
    have hu : u = .int a := by
      obtain ⟨v', fp, e1, r⟩ := h3.look (i := 0) rfl
      simp at e1; subst e1
      obtain ⟨_, r⟩ := r
      cases r; rfl
    subst hu
    have h4 : ER C F2 H2 ((some v :: σs) ++ σ) ((.st none α (it E) y :: es) ++ e1 y p p1) := h3.pop
    obtain ⟨l', fp', e4, r1⟩ := h4.lookF (i := i) (by simp [hl]) (h1 y p p1)
    rw [e3] at e4; cases e4
    obtain ⟨q1, vs1, fps, rfl, _, _, _⟩ := r1
    obtain ⟨vs, h4p⟩ := h4.pin (i := (.st none α (it E) y :: es : Env).length + i) (q1 := q1) (by rw [at_app _ rfl]; exact h1 y p p1) (by rw [at_app _ (by simp [hl])]; exact e3)
    rw [List.set_append_right _ _ (Nat.le_add_right _ _), Nat.add_sub_cancel_left] at h4p
    have hil : i < (e1 y p p1).length := lt_of_get (h1 y p p1)
    obtain ⟨l5, fp5, e5, r5⟩ := h4p.lookF (i := i) (by simp [hl]) (by rw [List.getElem?_set_self hil])
    rw [e3] at e5; cases e5
    obtain ⟨fps5, _, hq, ra, _⟩ := r5
    have hlen := ra.length
    have hnl : n < (xs y p p1).length := ixN_lt' hn
    have hx : (xs y p p1)[n]? = some ((xs y p p1).getD n []) := by rw [List.getElem?_eq_getElem hnl, List.getD_eq_getElem?_getD, List.getElem?_eq_getElem hnl]; rfl
    obtain ⟨fp1, fq, fp2, v5, efp, hvn, rv, _⟩ := ra.split hx
    obtain ⟨q2, ws, fps2, rfl, hq2, rw2, rfl⟩ := rv
    refine ⟨q1, vs, a, .ref q2, rfl, rfl, SqL.of hq, by unfold atI; rw [hlen, hn]; exact hvn, ?_⟩
    refine hj q1 vs y p p1 C F2 H2 (some v :: σs) (.st none α (it E) y :: es) σ _ ω _ hK (by simp [hl]) h4p hk2 fun b p2 v6 F3 H3 hk3 h5 => ?_
    obtain ⟨m, hm, hk3⟩ := bind_some hk3
    have hv6 : v6 = .int b := by
      obtain ⟨v', fp, e1, r⟩ := h5.look (i := 0) rfl
      simp at e1; subst e1
      obtain ⟨_, r⟩ := r
      cases r; rfl
    subst hv6
    have ry : Rep C.K F3 v (E.enc y) := by
      obtain ⟨v', fp, e1, r⟩ := h5.look (i := 1) rfl
      simp at e1; subst e1
      exact r.2
    have h6 : ER C F3 H3 (σs ++ σ) (es ++ e2 q1 vs y p p1 p2) := h5.pop.pop
    obtain ⟨l2, fp3, e6, r3, nd, ow, fin⟩ := h6.mut (i := es.length + i) (by rw [at_app _ rfl]; exact h2 q1 vs y p p1 p2)
    rw [at_app _ hl, e3] at e6
    cases e6
    obtain ⟨fps3, _, hq3, ra3, rfl⟩ := r3
    obtain ⟨gp1, gq, gp2, v3, egp, hvn3, rv3, put⟩ := ra3.split hx
    rw [hvn] at hvn3; cases hvn3
    obtain ⟨q4, ws4, fps4, e7, hq4, rw4, rfl⟩ := rv3
    cases e7
    subst egp
    obtain ⟨rfl, rp4⟩ := rw4.zero
    have hlen4 : ws4.length = ((xs y p p1).getD n []).length := by have := rp4.length; simpa using this
    refine ⟨q2, ws4, b, m, rfl, rfl, hq4, by rw [hlen4]; exact hm, ?_⟩
    have n1 : q1 ≠ q2 := fun z => by
      have := (List.nodup_cons.mp nd).1
      exact this (by rw [z]; simp)
    have nm1 : q2 ∉ gp1 ∧ q2 ∉ gp2 := by
      have := (List.nodup_cons.mp nd).2
      rw [List.nodup_append] at this
      obtain ⟨_, h2, h3⟩ := this
      exact ⟨fun m => h3 q2 m q2 (by simp) rfl, fun m => (List.nodup_cons.mp h2).1 (by simpa using m)⟩
    have fin' := fin (List (List α)) (ls (ls (it E))) ((xs y p p1).set n (((xs y p p1).getD n []).set m y)) (upd H3 q2 (.lst (ws4.set m v))) (q1 :: (gp1 ++ ([q2] ++ gp2))) (fun a na _ => upd_ne fun z => na (by rw [z]; simp)) (fun a m => ?_) ⟨q1, vs, _, rfl, by rw [upd_ne n1]; exact hq3, put _ [q2] _ (fun fr w y s z => Stor.frame _ (fun a m => upd_ne fun z => by
        rcases s a m with m | m
        · exact nm1.1 (z ▸ m)
        · exact nm1.2 (z ▸ m)) z) ⟨q2, ws4.set m v, [], rfl, upd_same, ?_, rfl⟩, rfl⟩ nd (fun a m => ?_)
    · rw [List.set_append_right _ _ (Nat.le_add_right _ _), Nat.add_sub_cancel_left] at fin'
      exact hr q1 vs y p a p1 b p2 _ C F3 _ σs es σ kn ω D hK hl fin' hk3 qn qb qc qr
    · by_cases z : a = q2
      · subst z; rw [upd_same]; exact fun z => by cases z
      · rw [upd_ne z]; exact m
    · have := rp4.set ry (i := m)
      rw [← List.map_set] at this
      exact this.zero
    · refine ⟨?_, .inl m⟩
      by_cases z : a = q2
      · subst z; rw [upd_same]; exact fun z => by cases z
      · rw [upd_ne z]; exact (ow a m).2.2)
end
end Z

set_option Elab.async false
set_option linter.all false
set_option maxRecDepth 100000
namespace Z
open PySem PySem.Spec PyProof.Rows L2
/-! ### lending: a def reads its first argument's object, and gives back nothing of it -/
def spL (K : Fg) {A T R : Type} (ST : Stor T) (sl : A → Env) (SR : Stor R) (m : T → A → Option R) : Sp := fun vs H Q _ => ∃ (B F : Hp) (t : T) (a : A) (r : R) (v0 : V) (vs' : List V), vs = v0 :: vs' ∧ m t a = some r ∧ (vs'.map some).length = (sl a).length ∧
  ER ⟨K, B, F, H, []⟩ F H (vs.map some) (.lk T ST t :: sl a) ∧ ∀ F' H' v, ER ⟨K, B, F, H, []⟩ F' H' [some v] [.st none R SR r] → Q v H'
section
variable {P : Program} {w : World} {K : Fg} {mg : Str → Option Value} {base : Heap}
theorem fnL {x qual : Str} {st : Stmt} {f : Addr} {fd : FuncData} {N ps : List Str} {k : Nat} {A T R : Type} {ST : Stor T} {sl : A → Env} {SR : Stor R} {m : T → A → Option R} (F : Fun K x qual st f fd) (S : FnScope N ps (defScope st)) (n : Nat) (hn : N.length - ps.length = n) (hl : ∀ a, (sl a).length + 1 = ps.length)
    (hb : ∀ (cdv : Value) (A' : Around) (outer : List PySem.Env) (s : Shared) (H : Hp) (E : XK), Room k (A'.deeper (envOfC qual (defScope st) s.heap.objs.size f cdv)) → ∀ (t : T) (a : A),
      LB (cxOf CX0 P w K mg base N qual (defScope st) f cdv A' outer s H E).nox SR (fun _ : Unit => List.replicate (ps.length + n) .un) (fun (r : R) (_ : Unit) => some r) (noLp R) (noLp R) (.lk T ST t :: (sl a ++ List.replicate n .un)) (defBody st) (fun z : Empty => z.elim) (fun _ => m t a)) :
    FnOk P w K mg base CX0 (k + 1) f fd ps (spL K ST sl SR m) := by
  have hlen : ∀ vs H Q E, spL K ST sl SR m vs H Q E → vs.length = ps.length := fun vs H Q E h => by
    obtain ⟨B, F0, t, a, r, v0, vs', rfl, _, h2, _⟩ := h
    rw [List.length_map] at h2; rw [List.length_cons, h2, hl a]
  refine F.ok S hlen fun cdv A' outer s H vs Q E hr h => ?_
  have hlv := hlen vs H Q E h
  obtain ⟨B, F0, t, a, r, v0, vs', rfl, hm, _, her, q⟩ := h
  refine ⟨_, pssC _, ?_⟩
  have hst : L2.start N (v0 :: vs') = (v0 :: vs').map some ++ List.replicate n none := by unfold L2.start; rw [hlv, hn]
  rw [hst]
  refine hb cdv A' outer s H E hr t a ⟨K, B, F0, H, []⟩ F0 H [] [] _ (fun z => z.elim) r { nx := fun _ H' => Q .non H', rt := Q } rfl rfl (her.padR n) hm (fun z => z.elim) (fun z => z.elim) (fun z => z.elim) ?_
  intro a' i v F' H' σ' e h'
  cases e
  exact q F' H' v h'.head
end
section
variable {X : Cx} {Ω : Type} {env : Env} {nm vn : Str} {pos np vp sp : Pos} {e ie : Expr} {xs : List Expr} {Pt A R T : Type} {SR : Stor R} {ST : Stor T} {e' : Pt → Env} {sl : A → Env} {k : Nat} {f : Addr} {fd : FuncData} {ps : List Str}
theorem ER.enterL {C : Ck} {F H : Hp} {σ : List (Option V)} {env : Env} {w : Option V} {t : T} {v0 : V} {i : Nat} {σa : List (Option V)} {ea : Env} (h : ER C F H (σa ++ σ) (ea ++ env)) (hl : σa.length = ea.length) (sh : ShE ea) (hi : env[i]? = some (.st w T ST t)) (hv : σ[i]? = some (some v0)) : ER ⟨C.K, H, F, H, []⟩ F H (some v0 :: σa) (.lk T ST t :: ea) := by
  have h0 : ER C F H σ env := h.popN hl
  obtain ⟨fp, q⟩ := h0.sl
  have hil := lt_of_get hi
  obtain ⟨v', e1, rr, _⟩ := q.ok i _ hi
  rw [hv] at e1
  simp at e1; subst e1
  have he := h.enter hl sh
  obtain ⟨fe, qe⟩ := he.sl
  exact ⟨he.sB, he.sF, he.gr, he.up, by simp [he.len], _, qe.push (fq := []) ⟨rfl, v0, fp i, rfl, rr, fun a m => (q.own i hil a m).2.2⟩ (fun _ m => nomatch m) List.nodup_nil fun _ _ _ _ m => nomatch m⟩
theorem ER.enterLK {C : Ck} {F H : Hp} {σ : List (Option V)} {env : Env} {t : T} {v0 : V} {i : Nat} {σa : List (Option V)} {ea : Env} (h : ER C F H (σa ++ σ) (ea ++ env)) (hl : σa.length = ea.length) (sh : ShE ea) (hi : env[i]? = some (.lk T ST t)) (hv : σ[i]? = some (some v0)) : ER ⟨C.K, H, F, H, []⟩ F H (some v0 :: σa) (.lk T ST t :: ea) := by
  have h0 : ER C F H σ env := h.popN hl
  obtain ⟨fp, q⟩ := h0.sl
  obtain ⟨_, v', fq, e1, rr, hB⟩ := q.ok i _ hi
  rw [hv] at e1
  simp at e1; subst e1
  have he := h.enter hl sh
  obtain ⟨fe, qe⟩ := he.sl
  exact ⟨he.sB, he.sF, he.gr, he.up, by simp [he.len], _, qe.push (fq := []) ⟨rfl, v0, fq, rfl, rr, fun a m => same_some h0.sB (hB a m)⟩ (fun _ m => nomatch m) List.nodup_nil fun _ _ _ _ m => nomatch m⟩
/-- f(x, ..), f reads x's object -/
theorem lx_callL {w : Option V} {t0 : T} {t : Pt → T} {m : T → A → Option R} {fa : (A → Pt → Option Ω) → Option Ω} (i : Nat) (Fn : FnOk X.prog X.w X.K X.mg X.base CX0 k f fd ps (spL X.K ST sl SR m)) (hr : Room k X.A) (hm : X.mg nm = some (.ref f)) (hk : PySem.W.keepIn X.K (.ref f) = true) (hb : Binds X.K fd ps []) (sh : ∀ a, ShE (sl a))
    (h0 : env[i]? = some (.st w T ST t0)) (ha : LA X env xs sl e' fa) (h1 : ∀ p, (e' p)[i]? = some (.st w T ST (t p))) (hN : X.N[i]? = some vn := by rfl) (hv : Vis X.env.scope vn := by first | exact Or.inl rfl | exact Or.inr (Or.inl rfl) | exact Or.inr (Or.inr rfl)) (hd : (vn == ("__debug__" : Str)) = false := by decide) (hcd : (vn == ("__classdict__" : Str)) = false := by decide)
    (hg : Gl X nm := by rfl) (hdb : (nm == ("__debug__" : Str)) = false := by decide) (he : starEach (Expr.Name vn vp :: xs) X.env = (false, eval (Expr.Name vn vp) X.env) :: starEach xs X.env := by rfl) (hpl : (backTo pos (starEach xs X.env)).any (·.1) = false := by rfl) :
    LX X env (.Call (.Name nm np) (.Name vn vp :: xs) [] pos) SR e' (fun k => fa fun a p => (m (t p) a).bind fun r => k r p) :=
  fun C F H σs es σ k ω Q hK hl h hk' q => tE.of X (pe_call Fn hr hg hm hk hb .nil pass0 (paC X) hdb he hpl) (la_lend i h0 hN hv ha hd hcd he C F H σs es σ _ ω _ hK hl h hk' fun a p v0 vs F' H' hk2 hv0 hlv h' => by
    obtain ⟨r, hm', hk2⟩ := bind_some hk2
    show spL X.K ST sl SR m (v0 :: vs ++ []) H' Q _
    rw [List.append_nil, ← hK]
    have h2 : ER C F' H' (vs.map some ++ (σs ++ σ)) (sl a ++ (es ++ e' p)) := h'
    refine ⟨H', F', t p, a, r, v0, vs, rfl, hm', hlv, h2.enterL (i := es.length + i) hlv (sh a) (by rw [at_app _ rfl]; exact h1 p) (by rw [at_app _ hl]; exact hv0), fun F2 H2 v h3 => ?_⟩
    obtain ⟨F3, h4⟩ := (h'.popN hlv).back h3
    exact q r p v F3 H2 hk2 h4)
theorem la_lendK {P : Type} {τ : Type} {S : Stor τ} {e' : P → Env} {fr : (A → P → Option Ω) → Option Ω} (i : Nat) {x : τ} (he : env[i]? = some (.lk τ S x)) (hN : X.N[i]? = some nm) (hv : Vis X.env.scope nm) (h2 : LA X env xs sl e' fr) (hd : (nm == ("__debug__" : Str)) = false := by decide) (hcd : (nm == ("__classdict__" : Str)) = false := by decide)
    (hs : starEach (Expr.Name nm pos :: xs) X.env = (false, eval (Expr.Name nm pos) X.env) :: starEach xs X.env := by rfl) :
    ∀ (C : Ck) (F H : Hp) (σs : List (Option V)) (es : Env) (σ : List (Option V)) (k : A → P → Option Ω) (ω : Ω) (Q : List V → Hp → Prop), C.K = X.K → σs.length = es.length → ER C F H (σs ++ σ) (es ++ env) → fr k = some ω →
    (∀ a p (v : V) (vs : List V) F' H', k a p = some ω → σ[i]? = some (some v) → (vs.map some).length = (sl a).length → ER C F' H' (vs.map some ++ (σs ++ σ)) (sl a ++ (es ++ e' p)) → Q (v :: vs) H') → tAs X (Expr.Name nm pos :: xs) σ H Q :=
  fun C F H σs es σ k ω Q hK hl h hk q => tAs.of X (pa_cons (peC X) (paC X) hs) (tE.of X (pe_var hN hv hd hcd) (by
    obtain ⟨v, fp, e1, r⟩ := h.lookKF hl he
    exact ⟨v, e1, h2 C F H σs es σ k ω _ hK hl h hk fun a p vs F' H' hk' hlv h' => q a p v vs F' H' hk' e1 hlv h'⟩))
/-- .. x itself lent -/
theorem lx_callLK {t0 : T} {m : T → A → Option R} {fa : (A → Pt → Option Ω) → Option Ω} (i : Nat) (Fn : FnOk X.prog X.w X.K X.mg X.base CX0 k f fd ps (spL X.K ST sl SR m)) (hr : Room k X.A) (hm : X.mg nm = some (.ref f)) (hk : PySem.W.keepIn X.K (.ref f) = true) (hb : Binds X.K fd ps []) (sh : ∀ a, ShE (sl a))
    (h0 : env[i]? = some (.lk T ST t0)) (ha : LA X env xs sl e' fa) (h1 : ∀ p, (e' p)[i]? = some (.lk T ST t0)) (hN : X.N[i]? = some vn := by rfl) (hv : Vis X.env.scope vn := by first | exact Or.inl rfl | exact Or.inr (Or.inl rfl) | exact Or.inr (Or.inr rfl)) (hd : (vn == ("__debug__" : Str)) = false := by decide) (hcd : (vn == ("__classdict__" : Str)) = false := by decide)
    (hg : Gl X nm := by rfl) (hdb : (nm == ("__debug__" : Str)) = false := by decide) (he : starEach (Expr.Name vn vp :: xs) X.env = (false, eval (Expr.Name vn vp) X.env) :: starEach xs X.env := by rfl) (hpl : (backTo pos (starEach xs X.env)).any (·.1) = false := by rfl) :
    LX X env (.Call (.Name nm np) (.Name vn vp :: xs) [] pos) SR e' (fun k => fa fun a p => (m t0 a).bind fun r => k r p) :=
  fun C F H σs es σ k ω Q hK hl h hk' q => tE.of X (pe_call Fn hr hg hm hk hb .nil pass0 (paC X) hdb he hpl) (la_lendK i h0 hN hv ha hd hcd he C F H σs es σ _ ω _ hK hl h hk' fun a p v0 vs F' H' hk2 hv0 hlv h' => by
    obtain ⟨r, hm', hk2⟩ := bind_some hk2
    show spL X.K ST sl SR m (v0 :: vs ++ []) H' Q _
    rw [List.append_nil, ← hK]
    have h2 : ER C F' H' (vs.map some ++ (σs ++ σ)) (sl a ++ (es ++ e' p)) := h'
    refine ⟨H', F', t0, a, r, v0, vs, rfl, hm', hlv, h2.enterLK (i := es.length + i) hlv (sh a) (by rw [at_app _ rfl]; exact h1 p) (by rw [at_app _ hl]; exact hv0), fun F2 H2 v h3 => ?_⟩
    obtain ⟨F3, h4⟩ := (h'.popN hlv).back h3
    exact q r p v F3 H2 hk2 h4)
/-- x[i], x a lent list of lists -/
theorem lo_ixK {α : Type} {E : Enc α} {P1 : Type} {e1 : P1 → Env} {fi : (Int → P1 → Option Ω) → Option Ω} {ys : List (List α)} (i : Nat) (h0 : env[i]? = some (.lk (List (List α)) (ls (ls (it E))) ys)) (hi : LX X env ie (it eI) e1 fi) (h1 : ∀ p, (e1 p)[i]? = some (.lk (List (List α)) (ls (ls (it E))) ys))
    (hN : X.N[i]? = some nm := by rfl) (hv : Vis X.env.scope nm := by first | exact Or.inl rfl | exact Or.inr (Or.inl rfl) | exact Or.inr (Or.inr rfl)) (hd : (nm == ("__debug__" : Str)) = false := by decide) (hcd : (nm == ("__classdict__" : Str)) = false := by decide) (hp : PlainIx ie := by exact fun _ _ => rfl) :
    LO X (fun en => en[i]? = some (.lk (List (List α)) (ls (ls (it E))) ys)) env (.Subscript (.Name nm np) ie sp) (ls (it E)) e1 (fun k => fi fun a p => (ixN ys.length a).bind fun n => k (ys.getD n []) p) := by
  have look : ∀ {C : Ck} {F H : Hp} {σq : List (Option V)} {eq env2 : Env} {σ : List (Option V)}, σq.length = eq.length → ER C F H (σq ++ σ) (eq ++ env2) → env2[i]? = some (.lk (List (List α)) (ls (ls (it E))) ys) → ∃ q1 vs fps, σ[i]? = some (some (V.ref q1)) ∧ H q1 = some (.lst vs) ∧ C.B q1 = some (.lst vs) ∧ RelAll ((ls (it E)).rel C.K F H) fps vs ys := by
    intro C F H σq eq env2 σ hl h hg
    obtain ⟨fp, q⟩ := h.sl
    obtain ⟨_, v, fq, e1, r, hB⟩ := q.ok (eq.length + i) _ (by rw [at_app _ rfl]; exact hg)
    rw [at_app _ hl] at e1
    obtain ⟨q1, vs, fps, rfl, hq, ra, rfl⟩ := r
    have b1 := hB q1 List.mem_cons_self
    refine ⟨q1, vs, fps, ?_, hq, ?_, ra⟩
    · cases z : σ[i]? with
      | none => rw [z] at e1; cases e1
      | some o => rw [z] at e1; exact congrArg some e1
    · rw [← same_eq h.sB b1]; exact hq
  refine fun C F H σs es σ k ω Q hK hl h hk q => tE.of X (pe_ix ix_list (pe_var hN hv hd hcd) (peC X) hp) ?_
  obtain ⟨q1, vs, fps, e1', _, b1, _⟩ := look hl h h0
  refine ⟨.ref q1, e1', hi C F H σs es σ _ ω _ hK hl h hk fun j p u F' H' hk' h' => ?_⟩
  have hu : u = .int j := by
    obtain ⟨v', fp, e1, r⟩ := h'.look (i := 0) rfl
    simp at e1; subst e1
    obtain ⟨_, r⟩ := r
    cases r; rfl
  subst hu
  have h3 : ER C F' H' (σs ++ σ) (es ++ e1 p) := h'.pop
  obtain ⟨n, hn, hk'⟩ := bind_some hk'
  obtain ⟨q1', vs', fps', e2, hq, b2, ra⟩ := look hl h3 (h1 p)
  rw [e1'] at e2; cases e2
  have hlen := ra.length
  have hnl : n < ys.length := ixN_lt' hn
  have hx : ys[n]? = some (ys.getD n []) := by rw [List.getElem?_eq_getElem hnl, List.getD_eq_getElem?_getD, List.getElem?_eq_getElem hnl]; rfl
  obtain ⟨fp1, fq, fp2, v, efp, hvn, rv, _⟩ := ra.split hx
  refine ⟨q1, vs', j, v, rfl, rfl, SqL.of hq, by unfold atI; rw [hlen, hn]; exact hvn, ?_⟩
  refine q (ys.getD n []) p v F' H' [] [] rfl hk' h3 fun F'' H'' σ2 e2 env2 hg hl2 h2 => ?_
  have h4 : ER C F'' H'' ((σ2 ++ σs) ++ σ) ((e2 ++ es) ++ env2) := by simpa [List.append_assoc] using h2
  obtain ⟨q3, vs3, fps3, e3, _, b3, ra3⟩ := look (by simp [hl, hl2]) h4 hg
  rw [e1'] at e3; cases e3
  rw [b2] at b3; cases b3
  obtain ⟨_, fq3, _, v3, _, hvn3, rv3, _⟩ := ra3.split hx
  rw [hvn] at hvn3; cases hvn3
  exact ⟨fq3, rv3⟩
/-! ### shared lists are lent as well -/
theorem rep_ls1 {α : Type} {E : Enc α} {K : Fg} {F H : Hp} {v : V} {x : List α} (s : Same F H) (h : Rep K F v ((eL E).enc x)) : ∃ fq, (ls (it E)).rel K F H fq v x ∧ ∀ a ∈ fq, F a ≠ none := by
  obtain ⟨p, vs, rfl, hF, ra⟩ := Rep.lst_inv h
  exact ⟨[p], ⟨p, vs, [], rfl, s _ _ hF, ra.zero, rfl⟩, fun a m => by simp at m; subst m; rw [hF]; exact fun z => by cases z⟩
theorem rep_all1 {α : Type} {E : Enc α} {K : Fg} {F H : Hp} (s : Same F H) : ∀ {vs : List V} {x : List (List α)}, RepAll K F vs (x.map (eL E).enc) → ∃ fq, RelAll ((ls (it E)).rel K F H) fq vs x ∧ ∀ a ∈ fq, F a ≠ none
  | [], [], _ => ⟨[], .nil, fun _ m => nomatch m⟩
  | [], _ :: _, h => by cases h
  | _ :: _, [], h => by cases h
  | v :: vs, y :: ys, h => by
    cases h with
    | cons h1 h2 =>
      obtain ⟨f1, r1, n1⟩ := rep_ls1 s h1
      obtain ⟨f2, r2, n2⟩ := rep_all1 s h2
      exact ⟨f1 ++ f2, .cons r1 r2, fun a m => (List.mem_append.1 m).elim (n1 a) (n2 a)⟩
theorem rep_ls2 {α : Type} {E : Enc α} {K : Fg} {F H : Hp} {v : V} {x : List (List α)} (s : Same F H) (h : Rep K F v ((eL (eL E)).enc x)) : ∃ fq, (ls (ls (it E))).rel K F H fq v x ∧ ∀ a ∈ fq, F a ≠ none := by
  obtain ⟨p, vs, rfl, hF, ra⟩ := Rep.lst_inv h
  obtain ⟨fq, r, n⟩ := rep_all1 s ra
  refine ⟨p :: fq, ⟨p, vs, fq, rfl, s _ _ hF, r, rfl⟩, fun a m => ?_⟩
  rcases List.mem_cons.1 m with rfl | m
  · rw [hF]; exact fun z => by cases z
  · exact n a m
/-- f(e, ..), f reads the shared list that e tells -/
theorem lx_callLS {α : Type} {E : Enc α} {m : List (List α) → A → Option R} {fa : ((List (List α) × A) → Pt → Option Ω) → Option Ω} (Fn : FnOk X.prog X.w X.K X.mg X.base CX0 k f fd ps (spL X.K (ls (ls (it E))) sl SR m)) (hr : Room k X.A) (hm : X.mg nm = some (.ref f)) (hk : PySem.W.keepIn X.K (.ref f) = true) (hb : Binds X.K fd ps []) (sh : ∀ a, ShE (sl a))
    (ha : LA X env (e :: xs) (fun a : List (List α) × A => .st none (List (List α)) (it (eL (eL E))) a.1 :: sl a.2) e' fa) (hg : Gl X nm := by rfl) (hdb : (nm == ("__debug__" : Str)) = false := by decide) (he : starEach (e :: xs) X.env = (false, eval e X.env) :: starEach xs X.env := by rfl) (hpl : (backTo pos (starEach xs X.env)).any (·.1) = false := by rfl) :
    LX X env (.Call (.Name nm np) (e :: xs) [] pos) SR e' (fun k => fa fun a p => (m a.1 a.2).bind fun r => k r p) :=
  fun C F H σs es σ k ω Q hK hl h hk' q => tE.of X (pe_call Fn hr hg hm hk hb .nil pass0 (paC X) hdb he hpl) (ha C F H σs es σ _ ω _ hK hl h hk' fun a p vs F' H' hk2 hlv h' => by
    obtain ⟨r, hm', hk3⟩ := bind_some hk2
    obtain ⟨t, a⟩ := a
    show spL X.K (ls (ls (it E))) sl SR m (vs ++ []) H' Q _
    rw [List.append_nil, ← hK]
    match vs, hlv with
    | v0 :: vs, hlv =>
      have hlv2 : (vs.map some).length = (sl a).length := by simpa using hlv
      have hall := h'.enter (σa := (v0 :: vs).map some) (ea := .st none (List (List α)) (it (eL (eL E))) t :: sl a) hlv (.cons cp_it (sh a))
      have hsub := h'.pop.enter hlv2 (sh a)
      obtain ⟨fe, qe⟩ := hsub.sl
      obtain ⟨v1, e1, r1⟩ := hall.rep (i := 0) rfl
      simp at e1; subst e1
      obtain ⟨fq, rr, nn⟩ := rep_ls2 hall.sF r1
      refine ⟨H', F', t, a, r, v0, vs, rfl, hm', hlv2, ⟨hsub.sB, hsub.sF, hsub.gr, hsub.up, by simp [hsub.len], _, qe.push (fq := []) ⟨rfl, v0, fq, rfl, rr, fun a m => same_some hall.sF (nn a m)⟩ (fun _ m => nomatch m) List.nodup_nil fun _ _ _ _ m => nomatch m⟩, fun F2 H2 v h3 => ?_⟩
      obtain ⟨F3, h4⟩ := (h'.popN hlv).back h3
      exact q r p v F3 H2 hk3 h4)
end
/-- a tuple of one -/
def eT1 {α : Type} (A : Enc α) : Enc α := ⟨fun a => .tuple [A.enc a], fun a b h => by
  injection h with h
  simp only [List.cons.injEq, and_true] at h
  exact A.inj _ _ h⟩
section
variable {X : Cx} {Ω : Type} {env : Env} {nm : Str} {pos : Pos} {a b c e : Expr} {xs rest : List Expr} {P P1 P2 P3 A : Type} {τ τ1 τ2 α β : Type} {S : Stor τ} {S1 : Stor τ1} {S2 : Stor τ2} {E : Enc τ} {E1 : Enc τ1} {E2 : Enc τ2}
/-- a or b, a and b, where b changes things: what is left is told by j -/
theorem lw_orJ {Pj : Type} (envJ : Pj → Env) {e1 : P1 → Env} {e2 : P1 → P2 → Env} {fa : (Bool → P1 → Option Ω) → Option Ω} {fb : P1 → (Bool → P2 → Option Ω) → Option Ω} (ha : LT X env a e1 fa) (hb : ∀ p1, LW X (e1 p1) (.BoolOp .Or (b :: rest) pos) (e2 p1) (fb p1)) (ja : P1 → Pj) (jb : P1 → P2 → Pj) (hs : ∀ p1, Sub (e1 p1) (envJ (ja p1))) (hs2 : ∀ p1 p2, Sub (e2 p1 p2) (envJ (jb p1 p2))) :
    LW X env (.BoolOp .Or (a :: b :: rest) pos) envJ (fun k => fa fun x p1 => if x = true then k true (ja p1) else fb p1 fun y p2 => k y (jb p1 p2)) :=
  fun C F H σs es σ k ω Q hK hl hr hk q => tW.of X (pw_or (ptC X) (pwC X)) (ha C F H σs es σ _ ω _ hK hl hr hk fun x p1 F' H' hk' h' => by
    cases x with
    | true => rw [if_pos rfl] at hk' ⊢; exact q true (ja p1) F' H' hk' (h'.subF (hs p1))
    | false => rw [if_neg Bool.false_ne_true] at hk' ⊢; exact hb p1 C F' H' σs es σ _ ω Q hK hl h' hk' fun y p2 F2 H2 hk2 h2 => q y (jb p1 p2) F2 H2 hk2 (h2.subF (hs2 p1 p2)))
theorem lw_andJ {Pj : Type} (envJ : Pj → Env) {e1 : P1 → Env} {e2 : P1 → P2 → Env} {fa : (Bool → P1 → Option Ω) → Option Ω} {fb : P1 → (Bool → P2 → Option Ω) → Option Ω} (ha : LT X env a e1 fa) (hb : ∀ p1, LW X (e1 p1) (.BoolOp .And (b :: rest) pos) (e2 p1) (fb p1)) (ja : P1 → Pj) (jb : P1 → P2 → Pj) (hs : ∀ p1, Sub (e1 p1) (envJ (ja p1))) (hs2 : ∀ p1 p2, Sub (e2 p1 p2) (envJ (jb p1 p2))) :
    LW X env (.BoolOp .And (a :: b :: rest) pos) envJ (fun k => fa fun x p1 => if x = true then fb p1 fun y p2 => k y (jb p1 p2) else k false (ja p1)) :=
  fun C F H σs es σ k ω Q hK hl hr hk q => tW.of X (pw_and (ptC X) (pwC X)) (ha C F H σs es σ _ ω _ hK hl hr hk fun x p1 F' H' hk' h' => by
    cases x with
    | true => rw [if_pos rfl] at hk' ⊢; exact hb p1 C F' H' σs es σ _ ω Q hK hl h' hk' fun y p2 F2 H2 hk2 h2 => q y (jb p1 p2) F2 H2 hk2 (h2.subF (hs2 p1 p2))
    | false => rw [if_neg Bool.false_ne_true] at hk' ⊢; exact q false (ja p1) F' H' hk' (h'.subF (hs p1)))
end
section
variable {X : Cx} {Ω : Type} {env : Env} {nm : Str} {pos sp np fp0 : Pos} {ie : Expr} {P1 α : Type} {E : Enc α}
/-- len(x[i]), x a list of own lists -/
theorem lx_lenIx {fi : (Int → P1 → Option Ω) → Option Ω} {e1 : P1 → Env} {w : Option V} {xs : List (List α)} (i : Nat) (hm : X.mg "len" = none) (h0 : env[i]? = some (.st w (List (List α)) (ls (ls (it E))) xs))
    (hi : LX X env ie (it eI) e1 fi) (h1 : ∀ p, (e1 p)[i]? = some (.st w (List (List α)) (ls (ls (it E))) xs))
    (hN : X.N[i]? = some nm := by rfl) (hv : Vis X.env.scope nm := by first | exact Or.inl rfl | exact Or.inr (Or.inl rfl) | exact Or.inr (Or.inr rfl))
    (hd : (nm == ("__debug__" : Str)) = false := by decide) (hcd : (nm == ("__classdict__" : Str)) = false := by decide) (hp : PlainIx ie := by exact fun _ _ => rfl)
    (hg : Gl X "len" := by rfl) (he : starEach (Expr.Subscript (.Name nm np) ie sp :: []) X.env = (false, eval (Expr.Subscript (.Name nm np) ie sp) X.env) :: starEach [] X.env := by rfl) (hpl : (backTo pos (starEach [] X.env)).any (·.1) = false := by rfl) :
    LX X env (.Call (.Name "len" fp0) [.Subscript (.Name nm np) ie sp] [] pos) (it eI) e1 (fun k => fi fun a p => (ixN xs.length a).bind fun n => k ((xs.getD n []).length : Int) p) :=
  fun C F H σs es σ k ω Q hK hl h hk q => tE.of X (pe_callB call_len_seq hg hm PySem.boot_len (pa_cons (pe_ix ix_list (pe_var hN hv hd hcd) (peC X) hp) pa_nil he) (by decide) (by decide) he hpl) (by
    obtain ⟨l, fp, e1', r⟩ := h.lookF hl h0
    refine ⟨l, e1', hi C F H σs es σ _ ω _ hK hl h hk fun j p u F' H' hk' h' => ?_⟩
    have hu : u = .int j := by
      obtain ⟨v', fp, e1, r⟩ := h'.look (i := 0) rfl
      simp at e1; subst e1
      obtain ⟨_, r⟩ := r
      cases r; rfl
    subst hu
    have h3 : ER C F' H' (σs ++ σ) (es ++ e1 p) := h'.pop
    obtain ⟨n, hn, hk'⟩ := bind_some hk'
    obtain ⟨l', fp', e3, r1⟩ := h3.lookF hl (h1 p)
    rw [e1'] at e3; cases e3
    obtain ⟨q1, vs, fps, rfl, hq, ra, rfl⟩ := r1
    have hlen := ra.length
    have hnl : n < xs.length := ixN_lt' hn
    have hx : xs[n]? = some (xs.getD n []) := by rw [List.getElem?_eq_getElem hnl, List.getD_eq_getElem?_getD, List.getElem?_eq_getElem hnl]; rfl
    obtain ⟨fp1, fq, fp2, v, efp, hvn, rv, _⟩ := ra.split hx
    obtain ⟨q2, ws, fps2, rfl, hq2, rw2, rfl⟩ := rv
    have hlen2 := rw2.length
    refine ⟨q1, vs, j, .ref q2, rfl, rfl, SqL.of hq, by unfold atI; rw [hlen, hn]; exact hvn, ?_⟩
    exact ⟨q2, ws, rfl, .inl (SqL.of hq2), by rw [hlen2]; exact q _ p _ F' H' hk' (h3.pushSh (.int _))⟩)
end
end Z


namespace My
open PySem PySem.Spec PyProof.Rows L2 Z
def topS (i : Nat) : Stmt := PySem.Challenge.pw_cutwright_k50_whole_bounds.main.body.getD i (.Pass ⟨0, 0, 0, 0⟩)
abbrev s_cells_in : Stmt := topS 1
abbrev s_at : Stmt := topS 2
abbrev s_steps : Stmt := topS 3
abbrev s_crossing : Stmt := topS 4
abbrev s_tightest : Stmt := topS 5
abbrev s_tighten : Stmt := topS 6
abbrev s_tighten_fault : Stmt := topS 7
abbrev s_cell_fault : Stmt := topS 8
abbrev s__law_state : Stmt := topS 10
abbrev s__law_take : Stmt := topS 11
abbrev s__law_table : Stmt := topS 12
abbrev s__law_cells : Stmt := topS 13
abbrev s__law_steps : Stmt := topS 14
abbrev s__law_least : Stmt := topS 15
abbrev s__law_most : Stmt := topS 16
abbrev s__law_fault : Stmt := topS 17
abbrev s__law_cell_fault : Stmt := topS 18
abbrev s__law_crossing : Stmt := topS 19
abbrev s__law_bent : Stmt := topS 20
abbrev s_law : Stmt := topS 21
structure Fa (K : Fg) (mg : Str → Option Value) where
  f_cells_in : Addr
  fd_cells_in : FuncData
  F_cells_in : Fun K "cells_in" "cells_in" s_cells_in f_cells_in fd_cells_in
  g_cells_in : mg "cells_in" = some (.ref f_cells_in)
  b_cells_in : Binds K fd_cells_in ["table"] []
  f_at : Addr
  fd_at : FuncData
  F_at : Fun K "at" "at" s_at f_at fd_at
  g_at : mg "at" = some (.ref f_at)
  b_at : Binds K fd_at ["table", "cell"] []
  f_steps : Addr
  fd_steps : FuncData
  F_steps : Fun K "steps" "steps" s_steps f_steps fd_steps
  g_steps : mg "steps" = some (.ref f_steps)
  b_steps : Binds K fd_steps ["one", "other"] []
  f_crossing : Addr
  fd_crossing : FuncData
  F_crossing : Fun K "crossing" "crossing" s_crossing f_crossing fd_crossing
  g_crossing : mg "crossing" = some (.ref f_crossing)
  b_crossing : Binds K fd_crossing ["bounds", "slope"] []
  f_tightest : Addr
  fd_tightest : FuncData
  F_tightest : Fun K "tightest" "tightest" s_tightest f_tightest fd_tightest
  g_tightest : mg "tightest" = some (.ref f_tightest)
  b_tightest : Binds K fd_tightest ["bounds", "slope", "cell"] []
  f_tighten : Addr
  fd_tighten : FuncData
  F_tighten : Fun K "tighten" "tighten" s_tighten f_tighten fd_tighten
  g_tighten : mg "tighten" = some (.ref f_tighten)
  b_tighten : Binds K fd_tighten ["bounds", "slope"] []
  f_tighten_fault : Addr
  fd_tighten_fault : FuncData
  F_tighten_fault : Fun K "tighten_fault" "tighten_fault" s_tighten_fault f_tighten_fault fd_tighten_fault
  g_tighten_fault : mg "tighten_fault" = some (.ref f_tighten_fault)
  b_tighten_fault : Binds K fd_tighten_fault ["bounds", "slope", "told"] []
  f_cell_fault : Addr
  fd_cell_fault : FuncData
  F_cell_fault : Fun K "cell_fault" "cell_fault" s_cell_fault f_cell_fault fd_cell_fault
  g_cell_fault : mg "cell_fault" = some (.ref f_cell_fault)
  b_cell_fault : Binds K fd_cell_fault ["bounds", "slope", "table", "held", "cell"] []
  f__law_state : Addr
  fd__law_state : FuncData
  F__law_state : Fun K "_law_state" "_law_state" s__law_state f__law_state fd__law_state
  g__law_state : mg "_law_state" = some (.ref f__law_state)
  b__law_state : Binds K fd__law_state ["script"] []
  f__law_take : Addr
  fd__law_take : FuncData
  F__law_take : Fun K "_law_take" "_law_take" s__law_take f__law_take fd__law_take
  g__law_take : mg "_law_take" = some (.ref f__law_take)
  b__law_take : Binds K fd__law_take ["state", "most"] []
  f__law_table : Addr
  fd__law_table : FuncData
  F__law_table : Fun K "_law_table" "_law_table" s__law_table f__law_table fd__law_table
  g__law_table : mg "_law_table" = some (.ref f__law_table)
  b__law_table : Binds K fd__law_table ["state"] []
  f__law_cells : Addr
  fd__law_cells : FuncData
  F__law_cells : Fun K "_law_cells" "_law_cells" s__law_cells f__law_cells fd__law_cells
  g__law_cells : mg "_law_cells" = some (.ref f__law_cells)
  b__law_cells : Binds K fd__law_cells ["table"] []
  f__law_steps : Addr
  fd__law_steps : FuncData
  F__law_steps : Fun K "_law_steps" "_law_steps" s__law_steps f__law_steps fd__law_steps
  g__law_steps : mg "_law_steps" = some (.ref f__law_steps)
  b__law_steps : Binds K fd__law_steps ["one", "other"] []
  f__law_least : Addr
  fd__law_least : FuncData
  F__law_least : Fun K "_law_least" "_law_least" s__law_least f__law_least fd__law_least
  g__law_least : mg "_law_least" = some (.ref f__law_least)
  b__law_least : Binds K fd__law_least ["bounds", "slope", "cell"] []
  f__law_most : Addr
  fd__law_most : FuncData
  F__law_most : Fun K "_law_most" "_law_most" s__law_most f__law_most fd__law_most
  g__law_most : mg "_law_most" = some (.ref f__law_most)
  b__law_most : Binds K fd__law_most ["bounds", "slope", "cell"] []
  f__law_fault : Addr
  fd__law_fault : FuncData
  F__law_fault : Fun K "_law_fault" "_law_fault" s__law_fault f__law_fault fd__law_fault
  g__law_fault : mg "_law_fault" = some (.ref f__law_fault)
  b__law_fault : Binds K fd__law_fault ["bounds", "slope", "told"] []
  f__law_cell_fault : Addr
  fd__law_cell_fault : FuncData
  F__law_cell_fault : Fun K "_law_cell_fault" "_law_cell_fault" s__law_cell_fault f__law_cell_fault fd__law_cell_fault
  g__law_cell_fault : mg "_law_cell_fault" = some (.ref f__law_cell_fault)
  b__law_cell_fault : Binds K fd__law_cell_fault ["bounds", "slope", "table", "holds", "cell"] []
  f__law_crossing : Addr
  fd__law_crossing : FuncData
  F__law_crossing : Fun K "_law_crossing" "_law_crossing" s__law_crossing f__law_crossing fd__law_crossing
  g__law_crossing : mg "_law_crossing" = some (.ref f__law_crossing)
  b__law_crossing : Binds K fd__law_crossing ["bounds", "slope"] []
  f__law_bent : Addr
  fd__law_bent : FuncData
  F__law_bent : Fun K "_law_bent" "_law_bent" s__law_bent f__law_bent fd__law_bent
  g__law_bent : mg "_law_bent" = some (.ref f__law_bent)
  b__law_bent : Binds K fd__law_bent ["state", "bounds", "told"] []
  f_law : Addr
  fd_law : FuncData
  F_law : Fun K "law" "law" s_law f_law fd_law
  g_law : mg "law" = some (.ref f_law)
  b_law : Binds K fd_law ["script"] []
  z_abs : mg "abs" = none
  z_all : mg "all" = none
  z_int : mg "int" = none
  z_isinstance : mg "isinstance" = none
  z_len : mg "len" = none
  z_list : mg "list" = none
  z_max : mg "max" = none
  z_min : mg "min" = none
  z_range : mg "range" = none
  z_repr : mg "repr" = none
  z_tuple : mg "tuple" = none

def m_cells_in (a_table : (List (List (Int × Int)))) : Option (List (Int × Int)) :=
  let v_high_1 : Int := (List.length a_table : Int)
  let k21 := fun z22 : Int => (
    let v_wide_6 : Int := z22
    ck (rgOk 0 v_wide_6) (forO (rangeL 0 v_wide_6) [] (fun x9 (a16 : List (Int × Int)) kc18 => (
      ck (rgOk 0 v_high_1) (forO (rangeL 0 v_high_1) a16 (fun y11 (a17 : List (Int × Int)) kc19 => (
        ck (decide (List.length a17 < SZ)) (kc19 (a17 ++ [(x9, y11)])))) kc18))) fun (ys20 : List (Int × Int)) => (
      some ys20)))
  if (!List.isEmpty a_table) = true then ((atI a_table (0 : Int)).bind fun y5 =>
  k21 (List.length y5 : Int)) else (k21 (0 : Int))
def m_at (a_table : (List (List PyData))) (a_cell : (Int × Int)) : Option PyData :=
  (atI a_table a_cell.2).bind fun y24 =>
  (atI y24 a_cell.1).bind fun y26 =>
  some y26
def m_steps (a_one : (Int × Int)) (a_other : (Int × Int)) : Option Int :=
  some ((if (a_one.1 - a_other.1) < 0 then -(a_one.1 - a_other.1) else (a_one.1 - a_other.1)) + (if (a_one.2 - a_other.2) < 0 then -(a_one.2 - a_other.2) else (a_one.2 - a_other.2)))
def m_crossing (a_bounds : (List (List (Int × Int)))) (a_slope : Int) : Option (Option ((Int × Int) × (Int × Int))) :=
  (m_cells_in a_bounds).bind fun r32 =>
  let v_cells_33 : (List (Int × Int)) := r32
  forO v_cells_33 () (fun x37 (t36 : Unit) kc38 => (
    forO v_cells_33 () (fun x42 (t41 : Unit) kc43 => (
      (m_at (List.map (List.map (eT2 eI eI).enc) a_bounds) x37).bind fun r47 =>
      (partD r47 (0 : Int)).bind fun y49 =>
      (deI y49).bind fun y50 =>
      (m_steps x37 x42).bind fun r55 =>
      ck (mulOk a_slope r55) ((m_at (List.map (List.map (eT2 eI eI).enc) a_bounds) x42).bind fun r64 =>
      (partD r64 (1 : Int)).bind fun y66 =>
      (deI y66).bind fun y67 =>
      if (decide (y67 < (y50 - (a_slope * r55)))) = true then (
        some (some (x37, x42)))
      else (
        kc43 ()))))
      fun t71 : Unit => (
      kc38 ())))
    fun t73 : Unit => (
    some none)
def m_tightest (a_bounds : (List (List (Int × Int)))) (a_slope : Int) (a_cell : (Int × Int)) : Option ((Int × Int) × (Int × Int) × (Int × Int)) :=
  let v_least_75 : (Option (Int × (Int × Int))) := none
  let v_most_77 : (Option (Int × (Int × Int))) := none
  (m_cells_in a_bounds).bind fun r80 =>
  forO r80 (v_least_75, v_most_77) (fun x83 (t82 : ((Option (Int × (Int × Int))) × (Option (Int × (Int × Int))))) kc84 => (
    (m_steps a_cell x83).bind fun r89 =>
    ck (mulOk a_slope r89) (let v_way_90 : Int := (a_slope * r89)
    (m_at (List.map (List.map (eT2 eI eI).enc) a_bounds) x83).bind fun r94 =>
    (partD r94 (0 : Int)).bind fun y96 =>
    (deI y96).bind fun y97 =>
    let v_low_99 : Int := (y97 - v_way_90)
    (m_at (List.map (List.map (eT2 eI eI).enc) a_bounds) x83).bind fun r108 =>
    (partD r108 (1 : Int)).bind fun y110 =>
    (deI y110).bind fun y112 =>
    let v_high_113 : Int := (y112 + v_way_90)
    (let k138 := fun z : Bool => (some z)
    if (isNone ((eO (eT2 eI (eT2 eI eI)) (fun _ h => by cases h)).enc t82.1)) = true then k138 true else (t82.1.bind fun y117 =>
    k138 (decide (y117.1 < v_low_99)))).bind fun z118 : Bool =>
    let k121 := fun j120 : (Option (Int × (Int × Int))) => (
      (let k137 := fun z : Bool => (some z)
      if (isNone ((eO (eT2 eI (eT2 eI eI)) (fun _ h => by cases h)).enc t82.2)) = true then k137 true else (t82.2.bind fun y128 =>
      k137 (decide (v_high_113 < y128.1)))).bind fun z129 : Bool =>
      let k132 := fun j131 : (Option (Int × (Int × Int))) => (
        kc84 (j120, j131))
      if z129 = true then (
        let v_most_135 : (Option (Int × (Int × Int))) := (some (v_high_113, x83))
        k132 v_most_135)
      else (
        k132 t82.2))
    if z118 = true then (
      let v_least_124 : (Option (Int × (Int × Int))) := (some (v_low_99, x83))
      k121 v_least_124)
    else (
      k121 t82.1))))
    fun t139 : ((Option (Int × (Int × Int))) × (Option (Int × (Int × Int)))) => (
    t139.1.bind fun y140 =>
    t139.2.bind fun y142 =>
    t139.1.bind fun y145 =>
    t139.2.bind fun y147 =>
    some ((y140.1, y142.1), y145.2, y147.2))
def m_tighten (a_bounds : (List (List (Int × Int)))) (a_slope : Int) : Option PyData :=
  (m_crossing a_bounds a_slope).bind fun r152 =>
  let v_pair_153 : (Option ((Int × Int) × (Int × Int))) := r152
  if (!isNone ((eO (eT2 (eT2 eI eI) (eT2 eI eI)) (fun _ h => by cases h)).enc v_pair_153)) = true then (
    v_pair_153.bind fun y158 =>
    some ((eT3 eS (eT2 eI eI) (eT2 eI eI)).enc ((("cross" : Str)), y158.1, y158.2)))
  else (
    let v_table_159 : (List (List (Int × Int))) := ([] : (List (List (Int × Int))))
    let v_holds_161 : (List (List ((Int × Int) × (Int × Int)))) := ([] : (List (List ((Int × Int) × (Int × Int)))))
    ck (rgOk 0 (List.length a_bounds : Int)) (forO (rangeL 0 (List.length a_bounds : Int)) (v_table_159, v_holds_161) (fun x165 (t164 : ((List (List (Int × Int))) × (List (List ((Int × Int) × (Int × Int)))))) kc166 => (
      (atI a_bounds (0 : Int)).bind fun y169 =>
      ck (rgOk 0 (List.length y169 : Int)) (compO (rangeL 0 (List.length y169 : Int)) () (fun x172 (t171 : Unit) kc183 => (
        (m_tightest a_bounds a_slope (x172, x165)).bind fun r179 =>
        kc183 (some r179) ())) [] fun (ys181 : List ((Int × Int) × (Int × Int) × (Int × Int))) (t182 : Unit) => (
        let v_told_184 : (List ((Int × Int) × (Int × Int) × (Int × Int))) := ys181
        compO v_told_184 () (fun x190 (t189 : Unit) kc195 => (
          kc195 (some x190.1) ())) [] fun (ys193 : List (Int × Int)) (t194 : Unit) => (
          ck (decide (List.length t164.1 < SZ)) (
          let w196 : (List (List (Int × Int))) := t164.1 ++ [ys193]
          compO v_told_184 () (fun x201 (t200 : Unit) kc206 => (
            kc206 (some (x201.2.1, x201.2.2)) ())) [] fun (ys204 : List ((Int × Int) × (Int × Int))) (t205 : Unit) => (
            ck (decide (List.length t164.2 < SZ)) (
            let w207 : (List (List ((Int × Int) × (Int × Int)))) := t164.2 ++ [ys204]
            kc166 (w196, w207)))))))))
      fun t208 : ((List (List (Int × Int))) × (List (List ((Int × Int) × (Int × Int))))) => (
      some (PyData.tuple [PyData.str ("tight" : Str), ((eL (eL (eT2 eI eI))).enc t208.1), ((eL (eL (eT2 (eT2 eI eI) (eT2 eI eI)))).enc t208.2)]))))
def m_cell_fault (a_bounds : (List (List (Int × Int)))) (a_slope : Int) (a_table : (List (List (Int × Int)))) (a_held : ((Int × Int) × (Int × Int))) (a_cell : (Int × Int)) : Option PyData :=
  (m_at (List.map (List.map (eT2 eI eI).enc) a_table) a_cell).bind fun r215 =>
  ((deT2 deI deI) r215).bind fun y216 =>
  let x217 : (Int × Int) := y216
  if (decide (x217.2 < x217.1)) = true then (
    some (PyData.tuple [PyData.str ("order" : Str), ((eT2 eI eI).enc a_cell)]))
  else (
    ((m_at (List.map (List.map (eT2 eI eI).enc) a_bounds) a_cell).bind fun r231 =>
    (partD r231 (0 : Int)).bind fun y233 =>
    (deI y233).bind fun y234 =>
    let k346 := fun z : Bool => (some z)
    if (decide (x217.1 < y234)) = true then k346 true else ((m_at (List.map (List.map (eT2 eI eI).enc) a_bounds) a_cell).bind fun r244 =>
    (partD r244 (1 : Int)).bind fun y246 =>
    (deI y246).bind fun y247 =>
    k346 (decide (y247 < x217.2)))).bind fun z248 : Bool =>
    if z248 = true then (
      some (PyData.tuple [PyData.str ("wide" : Str), ((eT2 eI eI).enc a_cell)]))
    else (
      forO ([((a_cell.1 + (1 : Int)), a_cell.2), (a_cell.1, (a_cell.2 + (1 : Int)))]) () (fun x265 (t264 : Unit) kc266 => (
        ((atI a_table (0 : Int)).bind fun y270 =>
        let k296 := fun z : Bool => (some z)
        if (decide (x265.1 < (List.length y270 : Int))) = true then (k296 (decide (x265.2 < (List.length a_table : Int)))) else k296 false).bind fun z273 : Bool =>
        let k276 := fun j275 : Unit => (
          kc266 ())
        if z273 = true then (
          (m_at (List.map (List.map (eT2 eI eI).enc) a_table) x265).bind fun r279 =>
          let v_one_280 : PyData := r279
          (partD v_one_280 (0 : Int)).bind fun y284 =>
          (deI y284).bind fun y285 =>
          (partD v_one_280 (1 : Int)).bind fun y289 =>
          (deI y289).bind fun y290 =>
          if (decide (a_slope < (max (if (x217.1 - y285) < 0 then -(x217.1 - y285) else (x217.1 - y285)) (if (x217.2 - y290) < 0 then -(x217.2 - y290) else (x217.2 - y290))))) = true then (
            some (PyData.tuple [PyData.str ("step" : Str), ((eT2 eI eI).enc a_cell), ((eT2 eI eI).enc x265)]))
          else (
            k276 ()))
        else (
          k276 ())))
        fun t297 : Unit => (
        (m_cells_in a_bounds).bind fun r299 =>
        let v_cells_300 : (List (Int × Int)) := r299
        (let k344 := fun z : Bool => (some z)
        if (!inB a_held.1 v_cells_300) = true then k344 true else ((m_at (List.map (List.map (eT2 eI eI).enc) a_bounds) a_held.1).bind fun r306 =>
        (partD r306 (0 : Int)).bind fun y308 =>
        (deI y308).bind fun y309 =>
        (m_steps a_cell a_held.1).bind fun r314 =>
        ck (mulOk a_slope r314) (k344 (!decide ((y309 - (a_slope * r314)) = x217.1))))).bind fun z316 : Bool =>
        if z316 = true then (
          some (PyData.tuple [PyData.str ("low" : Str), ((eT2 eI eI).enc a_cell)]))
        else (
          (let k343 := fun z : Bool => (some z)
          if (!inB a_held.2 v_cells_300) = true then k343 true else ((m_at (List.map (List.map (eT2 eI eI).enc) a_bounds) a_held.2).bind fun r329 =>
          (partD r329 (1 : Int)).bind fun y331 =>
          (deI y331).bind fun y337 =>
          (m_steps a_cell a_held.2).bind fun r336 =>
          ck (mulOk a_slope r336) (k343 (!decide ((y337 + (a_slope * r336)) = x217.2))))).bind fun z339 : Bool =>
          if z339 = true then (
            some (PyData.tuple [PyData.str ("high" : Str), ((eT2 eI eI).enc a_cell)]))
          else (
            some PyData.none)))))
def m_tighten_fault (a_bounds : (List (List (Int × Int)))) (a_slope : Int) (a_told : PyData) : Option PyData :=
  (m_cells_in a_bounds).bind fun r348 =>
  let v_cells_349 : (List (Int × Int)) := r348
  (partD a_told (0 : Int)).bind fun y355 =>
  (deS y355).bind fun y356 =>
  if (decide (y356 = ("cross" : Str))) = true then (
    ((deT3 deS (deT2 deI deI) (deT2 deI deI)) a_told).bind fun y358 =>
    let x359 : (Str × (Int × Int) × (Int × Int)) := y358
    (let k397 := fun z : Bool => (some z)
    if (!inB x359.2.1 v_cells_349) = true then k397 true else (k397 (!inB x359.2.2 v_cells_349))).bind fun z364 : Bool =>
    if z364 = true then (
      some (PyData.tuple [PyData.str ("cells" : Str)]))
    else (
      (m_at (List.map (List.map (eT2 eI eI).enc) a_bounds) x359.2.1).bind fun r369 =>
      (partD r369 (0 : Int)).bind fun y371 =>
      (deI y371).bind fun y372 =>
      (m_steps x359.2.1 x359.2.2).bind fun r377 =>
      ck (mulOk a_slope r377) ((m_at (List.map (List.map (eT2 eI eI).enc) a_bounds) x359.2.2).bind fun r386 =>
      (partD r386 (1 : Int)).bind fun y388 =>
      (deI y388).bind fun y389 =>
      let v_crossed_390 : Bool := (decide (y389 < (y372 - (a_slope * r377))))
      (let k395 := fun z396 : PyData => (
        some z396)
      if v_crossed_390 = true then (k395 PyData.none) else (k395 (PyData.tuple [PyData.str ("cross" : Str)]))).bind fun z394 : PyData =>
      some z394)))
  else (
    ((deT3 deS (deL (deL (deT2 deI deI))) (deL (deL (deT2 (deT2 deI deI) (deT2 deI deI))))) a_told).bind fun y398 =>
    let x399 : (Str × (List (List (Int × Int))) × (List (List ((Int × Int) × (Int × Int))))) := y398
    forO ([(List.map (List.map (eT2 eI eI).enc) x399.2.1), (List.map (List.map (eT2 (eT2 eI eI) (eT2 eI eI)).enc) x399.2.2)]) () (fun x405 (t404 : Unit) kc406 => (
      (let k424 := fun z : Bool => (some z)
      if (!decide ((List.length x405 : Int) = (List.length a_bounds : Int))) = true then k424 true else (compO x405 () (fun x412 (t411 : Unit) kc420 => (
        (atI a_bounds (0 : Int)).bind fun y416 =>
        kc420 (some (decide ((List.length x412 : Int) = (List.length y416 : Int)))) ())) [] fun (ys418 : List Bool) (t419 : Unit) => (
        k424 (!(List.all ys418 id))))).bind fun z421 : Bool =>
      if z421 = true then (
        some (PyData.tuple [PyData.str ("form" : Str)]))
      else (
        kc406 ())))
      fun t425 : Unit => (
      forO v_cells_349 () (fun x428 (t427 : Unit) kc429 => (
        (m_at (List.map (List.map (eT2 (eT2 eI eI) (eT2 eI eI)).enc) x399.2.2) x428).bind fun r436 =>
        ((deT2 (deT2 deI deI) (deT2 deI deI)) r436).bind fun y437 =>
        (m_cell_fault a_bounds a_slope x399.2.1 y437 x428).bind fun r440 =>
        let v_fault_441 : PyData := r440
        if (!isNone (eD.enc v_fault_441)) = true then (
          some v_fault_441)
        else (
          kc429 ())))
        fun t444 : Unit => (
        some PyData.none)))
def m__law_state (a_script : List Int) : Option TSt :=
  compO (cutL a_script none (some (63 : Int))) () (fun x450 (t449 : Unit) kc455 => (
    kc455 (some (if x450 < 0 then -x450 else x450)) ())) [] fun (ys453 : List Int) (t454 : Unit) => (
    let v_cells_456 : (List Int) := ys453
    let k461 := fun j460 : (List Int) => (
      some ((0 : Int), j460))
    if (decide ((List.length v_cells_456 : Int) = (0 : Int))) = true then (
      let v_cells_463 : (List Int) := [(0 : Int)]
      k461 v_cells_463)
    else (
      k461 v_cells_456))
def m__law_take (t0 : TSt) (a_most : Int) : Option (Int × TSt) :=
  ck (modOk (List.length t0.2 : Int)) (let v_at_v_467 : Int := (Int.fmod t0.1 (List.length t0.2 : Int))
  (atI t0.2 v_at_v_467).bind fun y470 =>
  let v_cell_471 : Int := y470
  if (decide ((1000000000000000000 : Int) ≤ v_cell_471)) = true then (
    ck (divOk a_most) ((ixN (List.length t0.2) v_at_v_467).bind fun n482 =>
    let z480 : (List Int) := List.set t0.2 n482 (Int.fdiv v_cell_471 a_most)
    ck (modOk a_most) (some ((Int.fmod v_cell_471 a_most), (t0.1, z480)))))
  else (
    let v_n_486 : Int := (t0.1 + (1 : Int))
    ck (mulOk v_cell_471 (48271 : Int)) (ck (mulOk v_n_486 (69621 : Int)) (ck (modOk (2147483647 : Int)) (let v_mixed_492 : Int := (Int.fmod ((v_cell_471 * (48271 : Int)) + (v_n_486 * (69621 : Int))) (2147483647 : Int))
    ck (mulOk v_mixed_492 (16807 : Int)) (ck (mulOk v_n_486 (7919 : Int)) (ck (modOk (1000000007 : Int)) (let v_mixed_499 : Int := (Int.fmod ((v_mixed_492 * (16807 : Int)) + (v_n_486 * (7919 : Int))) (1000000007 : Int))
    ck (divOk (7 : Int)) (ck (modOk a_most) (some ((Int.fmod (Int.fdiv v_mixed_499 (7 : Int)) a_most), (v_n_486, t0.2))))))))))))
def m__law_table (t0 : TSt)  : Option (((List (List (Int × Int))) × Int) × TSt) :=
  (m__law_take t0 (5 : Int)).bind fun r505 =>
  (m__law_take r505.2 (5 : Int)).bind fun r509 =>
  let x512 : Int := ((1 : Int) + r505.1)
  let y513 : Int := ((1 : Int) + r509.1)
  (m__law_take r509.2 (4 : Int)).bind fun r515 =>
  let v_slope_516 : Int := r515.1
  let v_bounds_518 : (List (List (Int × Int))) := ([] : (List (List (Int × Int))))
  (m__law_take r515.2 (6 : Int)).bind fun r522 =>
  let v_base_523 : Int := ((2 : Int) + r522.1)
  ck (rgOk 0 y513) (forO (rangeL 0 y513) (r522.2, v_bounds_518) (fun x527 (t526 : (TSt × (List (List (Int × Int))))) kc528 => (
    let v_row_530 : (List (Int × Int)) := ([] : (List (Int × Int)))
    ck (rgOk 0 x512) (forO (rangeL 0 x512) (t526.1, v_row_530) (fun x534 (t533 : (TSt × (List (Int × Int)))) kc535 => (
      (m__law_take t533.1 (8 : Int)).bind fun r538 =>
      let k550 := fun (z551 : Int) (j552 : TSt) => (
        let v_low_553 : Int := z551
        (m__law_take j552 (2 : Int)).bind fun r563 =>
        (atI ([(2 : Int), (8 : Int)]) r563.1).bind fun y564 =>
        (m__law_take r563.2 y564).bind fun r566 =>
        ck (decide (List.length t533.2 < SZ)) (
        let w568 : (List (Int × Int)) := t533.2 ++ [(v_low_553, (v_low_553 + r566.1))]
        kc535 (r566.2, w568)))
      if (decide ((0 : Int) < r538.1)) = true then ((m__law_take r538.2 (4 : Int)).bind fun r544 =>
      k550 (max (0 : Int) ((v_base_523 + r544.1) - (2 : Int))) r544.2) else ((m__law_take r538.2 (10 : Int)).bind fun r547 =>
      k550 r547.1 r547.2)))
      fun t569 : (TSt × (List (Int × Int))) => (
      ck (decide (List.length t526.2 < SZ)) (
      let w572 : (List (List (Int × Int))) := t526.2 ++ [t569.2]
      kc528 (t569.1, w572))))))
    fun t574 : (TSt × (List (List (Int × Int)))) => (
    some ((t574.2, v_slope_516), t574.1)))
def m__law_cells (a_table : (List (List (Int × Int)))) : Option (List (Int × Int)) :=
  let v_found_578 : (List (Int × Int)) := ([] : (List (Int × Int)))
  (ixN (List.length a_table) (0 : Int)).bind fun n580 =>
  ck (rgOk 0 (List.length (List.getD a_table n580 []) : Int)) (forO (rangeL 0 (List.length (List.getD a_table n580 []) : Int)) v_found_578 (fun x583 (t582 : (List (Int × Int))) kc584 => (
    ck (rgOk 0 (List.length a_table : Int)) (compO (rangeL 0 (List.length a_table : Int)) () (fun x590 (t589 : Unit) kc597 => (
      kc597 (some (x583, x590)) ())) [] fun (ys595 : List (Int × Int)) (t596 : Unit) => (
      let z599 : (List (Int × Int)) := ys595
      ck (decide (List.length t582 + List.length z599 ≤ SZ)) (
      let w598 : (List (Int × Int)) := t582 ++ z599
      kc584 w598)))))
    fun t600 : (List (Int × Int)) => (
    some t600))
def m__law_steps (a_one : (Int × Int)) (a_other : (Int × Int)) : Option Int :=
  some ((if (a_one.1 - a_other.1) < 0 then -(a_one.1 - a_other.1) else (a_one.1 - a_other.1)) + (if (a_one.2 - a_other.2) < 0 then -(a_one.2 - a_other.2) else (a_one.2 - a_other.2)))
def m__law_least (a_bounds : (List (List (Int × Int)))) (a_slope : Int) (a_cell : (Int × Int)) : Option Int :=
  (m__law_cells a_bounds).bind fun r606 =>
  compO r606 () (fun x609 (t608 : Unit) kc624 => (
    (ixN (List.length a_bounds) x609.2).bind fun n611 =>
    (atI (List.getD a_bounds n611 []) x609.1).bind fun y613 =>
    (m__law_steps a_cell (x609.1, x609.2)).bind fun r620 =>
    ck (mulOk a_slope r620) (kc624 (some (y613.1 - (a_slope * r620))) ()))) [] fun (ys622 : List Int) (t623 : Unit) => (
    (maxI ys622).bind fun y625 =>
    some y625)
def m__law_most (a_bounds : (List (List (Int × Int)))) (a_slope : Int) (a_cell : (Int × Int)) : Option Int :=
  (m__law_cells a_bounds).bind fun r626 =>
  compO r626 () (fun x629 (t628 : Unit) kc647 => (
    (ixN (List.length a_bounds) x629.2).bind fun n634 =>
    (atI (List.getD a_bounds n634 []) x629.1).bind fun y636 =>
    (m__law_steps a_cell (x629.1, x629.2)).bind fun r643 =>
    ck (mulOk a_slope r643) (kc647 (some (y636.2 + (a_slope * r643))) ()))) [] fun (ys645 : List Int) (t646 : Unit) => (
    (minI ys645).bind fun y648 =>
    some y648)
def m__law_cell_fault (a_bounds : (List (List (Int × Int)))) (a_slope : Int) (a_table : (List (List (Int × Int)))) (a_holds : (List (List ((Int × Int) × (Int × Int))))) (a_cell : (Int × Int)) : Option PyData :=
  let x649 : (Int × Int) := a_cell
  (atI a_table x649.2).bind fun y652 =>
  (atI y652 x649.1).bind fun y654 =>
  let x655 : (Int × Int) := y654
  if (decide (x655.2 < x655.1)) = true then (
    some (PyData.tuple [PyData.str ("order" : Str), ((eT2 eI eI).enc a_cell)]))
  else (
    ((atI a_bounds x649.2).bind fun y663 =>
    (atI y663 x649.1).bind fun y665 =>
    let k770 := fun z : Bool => (some z)
    if (decide (x655.1 < y665.1)) = true then k770 true else ((atI a_bounds x649.2).bind fun y669 =>
    (atI y669 x649.1).bind fun y671 =>
    k770 (decide (y671.2 < x655.2)))).bind fun z672 : Bool =>
    if z672 = true then (
      some (PyData.tuple [PyData.str ("wide" : Str), ((eT2 eI eI).enc a_cell)]))
    else (
      forO ([((x649.1 + (1 : Int)), x649.2), (x649.1, (x649.2 + (1 : Int)))]) () (fun x686 (t685 : Unit) kc687 => (
        ((atI a_table (0 : Int)).bind fun y691 =>
        let k719 := fun z : Bool => (some z)
        if (decide (x686.1 < (List.length y691 : Int))) = true then (k719 (decide (x686.2 < (List.length a_table : Int)))) else k719 false).bind fun z694 : Bool =>
        let k697 := fun j696 : Unit => (
          kc687 ())
        if z694 = true then (
          ((atI a_table x686.2).bind fun y700 =>
          (atI y700 x686.1).bind fun y702 =>
          let k718 := fun z : Bool => (some z)
          if (decide (a_slope < (if (x655.1 - y702.1) < 0 then -(x655.1 - y702.1) else (x655.1 - y702.1)))) = true then k718 true else ((atI a_table x686.2).bind fun y707 =>
          (atI y707 x686.1).bind fun y709 =>
          k718 (decide (a_slope < (if (x655.2 - y709.2) < 0 then -(x655.2 - y709.2) else (x655.2 - y709.2)))))).bind fun z711 : Bool =>
          if z711 = true then (
            some (PyData.tuple [PyData.str ("step" : Str), ((eT2 eI eI).enc a_cell), ((eT2 eI eI).enc (x686.1, x686.2))]))
          else (
            k697 ()))
        else (
          k697 ())))
        fun t720 : Unit => (
        (m__law_cells a_bounds).bind fun r721 =>
        let v_cells_723 : (List (Int × Int)) := r721
        (atI a_holds x649.2).bind fun y726 =>
        (atI y726 x649.1).bind fun y728 =>
        let x729 : ((Int × Int) × (Int × Int)) := y728
        (let k768 := fun z : Bool => (some z)
        if (!inB x729.1 v_cells_723) = true then k768 true else ((atI a_bounds x729.1.2).bind fun y734 =>
        (atI y734 x729.1.1).bind fun y736 =>
        (m__law_steps a_cell x729.1).bind fun r741 =>
        ck (mulOk a_slope r741) (k768 (!decide ((y736.1 - (a_slope * r741)) = x655.1))))).bind fun z743 : Bool =>
        if z743 = true then (
          some (PyData.tuple [PyData.str ("low" : Str), ((eT2 eI eI).enc a_cell)]))
        else (
          (let k767 := fun z : Bool => (some z)
          if (!inB x729.2 v_cells_723) = true then k767 true else ((atI a_bounds x729.2.2).bind fun y754 =>
          (atI y754 x729.2.1).bind fun y756 =>
          (m__law_steps a_cell x729.2).bind fun r761 =>
          ck (mulOk a_slope r761) (k767 (!decide ((y756.2 + (a_slope * r761)) = x655.2))))).bind fun z763 : Bool =>
          if z763 = true then (
            some (PyData.tuple [PyData.str ("high" : Str), ((eT2 eI eI).enc a_cell)]))
          else (
            some PyData.none)))))
def m__law_fault (a_bounds : (List (List (Int × Int)))) (a_slope : Int) (a_told : PyData) : Option PyData :=
  (m__law_cells a_bounds).bind fun r771 =>
  let v_cells_773 : (List (Int × Int)) := r771
  (partD a_told (0 : Int)).bind fun y779 =>
  (deS y779).bind fun y780 =>
  if (decide (y780 = ("cross" : Str))) = true then (
    (partD a_told (1 : Int)).bind fun y783 =>
    ((deT2 deI deI) y783).bind fun y784 =>
    (partD a_told (2 : Int)).bind fun y787 =>
    ((deT2 deI deI) y787).bind fun y788 =>
    let x791 : (Int × Int) := y784
    let y792 : (Int × Int) := y788
    (let k820 := fun z : Bool => (some z)
    if (!inB x791 v_cells_773) = true then k820 true else (k820 (!inB y792 v_cells_773))).bind fun z796 : Bool =>
    if z796 = true then (
      some (PyData.tuple [PyData.str ("cells" : Str)]))
    else (
      (atI a_bounds x791.2).bind fun y800 =>
      (atI y800 x791.1).bind fun y802 =>
      (m__law_steps x791 y792).bind fun r807 =>
      ck (mulOk a_slope r807) ((atI a_bounds y792.2).bind fun y810 =>
      (atI y810 y792.1).bind fun y812 =>
      let v_crossed_813 : Bool := (decide (y812.2 < (y802.1 - (a_slope * r807))))
      (let k818 := fun z819 : PyData => (
        some z819)
      if v_crossed_813 = true then (k818 PyData.none) else (k818 (PyData.tuple [PyData.str ("cross" : Str)]))).bind fun z817 : PyData =>
      some z817)))
  else (
    ((deT3 deS (deL (deL (deT2 deI deI))) (deL (deL (deT2 (deT2 deI deI) (deT2 deI deI))))) a_told).bind fun y821 =>
    let x822 : (Str × (List (List (Int × Int))) × (List (List ((Int × Int) × (Int × Int))))) := y821
    forO ([(List.map (List.map (eT2 eI eI).enc) x822.2.1), (List.map (List.map (eT2 (eT2 eI eI) (eT2 eI eI)).enc) x822.2.2)]) () (fun x828 (t827 : Unit) kc829 => (
      (let k848 := fun z : Bool => (some z)
      if (!decide ((List.length x828 : Int) = (List.length a_bounds : Int))) = true then k848 true else (compO x828 () (fun x835 (t834 : Unit) kc843 => (
        (atI a_bounds (0 : Int)).bind fun y838 =>
        if (!decide ((List.length x835 : Int) = (List.length y838 : Int))) = true then (kc843 (some x835) ()) else kc843 none ())) [] fun (ys841 : List (List PyData)) (t842 : Unit) => (
        k848 (decide ((0 : Int) < (List.length ys841 : Int)))))).bind fun z845 : Bool =>
      if z845 = true then (
        some (PyData.tuple [PyData.str ("form" : Str)]))
      else (
        kc829 ())))
      fun t849 : Unit => (
      forO v_cells_773 () (fun x852 (t851 : Unit) kc853 => (
        (m__law_cell_fault a_bounds a_slope x822.2.1 x822.2.2 x852).bind fun r860 =>
        let v_found_861 : PyData := r860
        if (!isNone (eD.enc v_found_861)) = true then (
          some v_found_861)
        else (
          kc853 ())))
        fun t864 : Unit => (
        some PyData.none)))
def m__law_crossing (a_bounds : (List (List (Int × Int)))) (a_slope : Int) : Option (Option ((Int × Int) × (Int × Int))) :=
  (m__law_cells a_bounds).bind fun r867 =>
  forO r867 () (fun x871 (t870 : Unit) kc872 => (
    (m__law_cells a_bounds).bind fun r874 =>
    forO r874 () (fun x878 (t877 : Unit) kc879 => (
      (atI a_bounds x871.2).bind fun y882 =>
      (atI y882 x871.1).bind fun y884 =>
      (m__law_steps x871 x878).bind fun r889 =>
      ck (mulOk a_slope r889) ((atI a_bounds x878.2).bind fun y892 =>
      (atI y892 x878.1).bind fun y894 =>
      if (decide (y894.2 < (y884.1 - (a_slope * r889)))) = true then (
        some (some (x871, x878)))
      else (
        kc879 ()))))
      fun t898 : Unit => (
      kc872 ())))
    fun t900 : Unit => (
    some none)
def m__law_bent (t0 : TSt) (a_bounds : (List (List (Int × Int)))) (a_told : PyData) : Option (PyData × TSt) :=
  (m__law_cells a_bounds).bind fun r902 =>
  let z908 : (List (Int × Int)) := r902
  let z909 : (List (Int × Int)) := [((9 : Int), (9 : Int))]
  ck (decide (List.length z908 + List.length z909 ≤ SZ)) (let v_cells_910 : (List (Int × Int)) := (z908 ++ z909)
  (partD a_told (0 : Int)).bind fun y916 =>
  (deS y916).bind fun y917 =>
  let k925 := fun (z : Bool) (j924 : TSt) => (if z = true then (
    (m__law_take j924 (List.length v_cells_910 : Int)).bind fun r930 =>
    (atI v_cells_910 r930.1).bind fun y931 =>
    (m__law_take r930.2 (List.length v_cells_910 : Int)).bind fun r935 =>
    (atI v_cells_910 r935.1).bind fun y936 =>
    some (PyData.tuple [PyData.str ("cross" : Str), ((eT2 eI eI).enc y931), ((eT2 eI eI).enc y936)], r935.2))
  else (
    (partD a_told (1 : Int)).bind fun y939 =>
    ((deL (deL (deT2 deI deI))) y939).bind fun y940 =>
    compO y940 () (fun x943 (t942 : Unit) kc948 => (
      kc948 (some x943) ())) [] fun (ys946 : List (List (Int × Int))) (t947 : Unit) => (
      (partD a_told (2 : Int)).bind fun y951 =>
      ((deL (deL (deT2 (deT2 deI deI) (deT2 deI deI)))) y951).bind fun y952 =>
      compO y952 () (fun x955 (t954 : Unit) kc960 => (
        kc960 (some x955) ())) [] fun (ys958 : List (List ((Int × Int) × (Int × Int)))) (t959 : Unit) => (
        let x963 : (List (List (Int × Int))) := ys946
        let y964 : (List (List ((Int × Int) × (Int × Int)))) := ys958
        (ixN (List.length x963) (0 : Int)).bind fun n965 =>
        (m__law_take j924 (List.length (List.getD x963 n965 []) : Int)).bind fun r967 =>
        (m__law_take r967.2 (List.length x963 : Int)).bind fun r970 =>
        let x973 : Int := r967.1
        let y974 : Int := r970.1
        (m__law_take r970.2 (6 : Int)).bind fun r976 =>
        let v_kind_977 : Int := r976.1
        let k982 := fun j981 : (TSt × (List (List (Int × Int))) × (List (List ((Int × Int) × (Int × Int))))) => (
          some (PyData.tuple [PyData.str ("tight" : Str), ((eL (eL (eT2 eI eI))).enc j981.2.1), ((eL (eL (eT2 (eT2 eI eI) (eT2 eI eI)))).enc j981.2.2)], j981.1))
        if (decide (v_kind_977 < (3 : Int))) = true then (
          (ixN (List.length x963) y974).bind fun n986 =>
          (atI (List.getD x963 n986 []) x973).bind fun y987 =>
          let x988 : (Int × Int) := y987
          (m__law_take r976.2 (4 : Int)).bind fun r1008 =>
          (atI ([((x988.1 + (1 : Int)), x988.2), ((x988.1 - (1 : Int)), x988.2), (x988.1, (x988.2 + (1 : Int))), (x988.1, (x988.2 - (1 : Int)))]) r1008.1).bind fun y1009 =>
          (ixN (List.length x963) y974).bind fun n1019 =>
          (ixN (List.length (List.getD x963 n1019 [])) x973).bind fun n1020 =>
          let z1016 : (List (List (Int × Int))) := List.set x963 n1019 (List.set (List.getD x963 n1019 []) n1020 y1009)
          k982 (r1008.2, z1016, y964))
        else (
          let k1024 := fun j1023 : (TSt × (List (List (Int × Int))) × (List (List ((Int × Int) × (Int × Int))))) => (
            k982 (j1023.1, j1023.2.1, j1023.2.2))
          if (decide (v_kind_977 = (3 : Int))) = true then (
            (m__law_take r976.2 (List.length v_cells_910 : Int)).bind fun r1027 =>
            (atI v_cells_910 r1027.1).bind fun y1028 =>
            (ixN (List.length y964) y974).bind fun n1033 =>
            (atI (List.getD y964 n1033 []) x973).bind fun y1034 =>
            (ixN (List.length y964) y974).bind fun n1045 =>
            (ixN (List.length (List.getD y964 n1045 [])) x973).bind fun n1046 =>
            let z1042 : (List (List ((Int × Int) × (Int × Int)))) := List.set y964 n1045 (List.set (List.getD y964 n1045 []) n1046 (y1028, y1034.2))
            k1024 (r1027.2, x963, z1042))
          else (
            let k1050 := fun j1049 : (TSt × (List (List (Int × Int))) × (List (List ((Int × Int) × (Int × Int))))) => (
              k1024 (j1049.1, j1049.2.1, j1049.2.2))
            if (decide (v_kind_977 = (4 : Int))) = true then (
              (ixN (List.length y964) y974).bind fun n1054 =>
              (atI (List.getD y964 n1054 []) x973).bind fun y1055 =>
              (m__law_take r976.2 (List.length v_cells_910 : Int)).bind fun r1059 =>
              (atI v_cells_910 r1059.1).bind fun y1060 =>
              (ixN (List.length y964) y974).bind fun n1071 =>
              (ixN (List.length (List.getD y964 n1071 [])) x973).bind fun n1072 =>
              let z1068 : (List (List ((Int × Int) × (Int × Int)))) := List.set y964 n1071 (List.set (List.getD y964 n1071 []) n1072 (y1055.1, y1060))
              k1050 (r1059.2, x963, z1068))
            else (
              (m__law_take r976.2 (2 : Int)).bind fun r1088 =>
              let k1103 := fun z1104 : (List (List (Int × Int))) => (
                let v_table_1101 : (List (List (Int × Int))) := z1104
                k1050 (r1088.2, v_table_1101, y964))
              if (decide (r1088.1 = (0 : Int))) = true then (k1103 (cutL x963 (some (1 : Int)) none)) else (compO x963 () (fun x1094 (t1093 : Unit) kc1100 => (
                kc1100 (some (cutL x1094 (some (1 : Int)) none)) ())) [] fun (ys1098 : List (List (Int × Int))) (t1099 : Unit) => (
                k1103 ys1098)))))))))
  if (decide (y917 = ("cross" : Str))) = true then k925 true t0 else ((m__law_take t0 (8 : Int)).bind fun r920 =>
  k925 (decide (r920.1 = (0 : Int))) r920.2))
def m_law (a_script : List Int) : Option Bool :=
  (m__law_state a_script).bind fun r1109 =>
  let v_state_1110 : TSt := r1109
  (m__law_table v_state_1110).bind fun r1112 =>
  let x1113 : ((List (List (Int × Int))) × Int) := r1112.1
  (reprO ((eL (eL (eT2 eI eI))).enc x1113.1)).bind fun y1115 =>
  let v_kept_1116 : Str := y1115
  (m__law_crossing x1113.1 x1113.2).bind fun r1120 =>
  let v_pair_1121 : (Option ((Int × Int) × (Int × Int))) := r1120
  (m_tighten x1113.1 x1113.2).bind fun r1125 =>
  let v_told_1126 : PyData := r1125
  (ck (isTupD v_told_1126) (
  let k1389 := fun z : Bool => (some z)
  if (!true) = true then k1389 true else ((reprO ((eL (eL (eT2 eI eI))).enc x1113.1)).bind fun y1129 =>
  let k1390 := fun z : Bool => (k1389 z)
  if (!decide (y1129 = v_kept_1116)) = true then k1390 true else ((m__law_fault x1113.1 x1113.2 v_told_1126).bind fun r1135 =>
  k1390 (!isNone (eD.enc r1135)))))).bind fun z1136 : Bool =>
  if z1136 = true then (
    some false)
  else (
    ((m_tighten_fault x1113.1 x1113.2 v_told_1126).bind fun r1141 =>
    let k1388 := fun z : Bool => (some z)
    if (!isNone (eD.enc r1141)) = true then k1388 true else ((partD v_told_1126 (0 : Int)).bind fun y1147 =>
    (deS y1147).bind fun y1148 =>
    k1388 (!decide ((decide (y1148 = ("cross" : Str))) = (!isNone ((eO (eT2 (eT2 eI eI) (eT2 eI eI)) (fun _ h => by cases h)).enc v_pair_1121)))))).bind fun z1150 : Bool =>
    if z1150 = true then (
      some false)
    else (
      (let k1387 := fun z : Bool => (some z)
      if (!isNone ((eO (eT2 (eT2 eI eI) (eT2 eI eI)) (fun _ h => by cases h)).enc v_pair_1121)) = true then (v_pair_1121.bind fun y1156 =>
      ck (SeqAt.shaped (eD.enc v_told_1126) && SeqAt.shaped ((eT3 eS (eT2 eI eI) (eT2 eI eI)).enc ((("cross" : Str)), y1156.1, y1156.2))) (k1387 (!PyData.eqv (eD.enc v_told_1126) ((eT3 eS (eT2 eI eI) (eT2 eI eI)).enc ((("cross" : Str)), y1156.1, y1156.2))))) else k1387 false).bind fun z1157 : Bool =>
      if z1157 = true then (
        some false)
      else (
        ck (rgOk 0 (6 : Int)) (forO (rangeL 0 (6 : Int)) r1112.2 (fun x1161 (t1160 : TSt) kc1162 => (
          (m__law_bent t1160 x1113.1 v_told_1126).bind fun r1166 =>
          let v_other_1167 : PyData := r1166.1
          (reprO (eD.enc v_other_1167)).bind fun y1169 =>
          let v_same_1170 : Str := y1169
          ((m_tighten_fault x1113.1 x1113.2 v_other_1167).bind fun r1175 =>
          (m__law_fault x1113.1 x1113.2 v_other_1167).bind fun r1180 =>
          ck (SeqAt.shaped (eD.enc r1175) && SeqAt.shaped (eD.enc r1180)) (let k1186 := fun z : Bool => (some z)
          if (!PyData.eqv (eD.enc r1175) (eD.enc r1180)) = true then k1186 true else ((reprO (eD.enc v_other_1167)).bind fun y1182 =>
          k1186 (!decide (y1182 = v_same_1170))))).bind fun z1184 : Bool =>
          if z1184 = true then (
            some false)
          else (
            kc1162 r1166.2)))
          fun t1187 : TSt => (
          if (!isNone ((eO (eT2 (eT2 eI eI) (eT2 eI eI)) (fun _ h => by cases h)).enc v_pair_1121)) = true then (
            some true)
          else (
            (m__law_cells x1113.1).bind fun r1189 =>
            forO r1189 () (fun x1193 (t1192 : Unit) kc1194 => (
              (m__law_least x1113.1 x1113.2 (x1193.1, x1193.2)).bind fun r1196 =>
              (m__law_most x1113.1 x1113.2 (x1193.1, x1193.2)).bind fun r1203 =>
              let x1210 : (Int × Int) := (r1196, r1203)
              (m__law_cells x1113.1).bind fun r1212 =>
              compO r1212 () (fun x1216 (t1215 : Unit) kc1233 => (
                (atI x1113.1 x1216.2).bind fun y1218 =>
                (atI y1218 x1216.1).bind fun y1220 =>
                (m__law_steps (x1193.1, x1193.2) x1216).bind fun r1227 =>
                ck (mulOk x1113.2 r1227) (if (decide ((y1220.1 - (x1113.2 * r1227)) = x1210.1)) = true then (kc1233 (some x1216) ()) else kc1233 none ()))) [] fun (ys1231 : List (Int × Int)) (t1232 : Unit) => (
                (atI ys1231 (0 : Int)).bind fun y1235 =>
                let v_first_1236 : (Int × Int) := y1235
                (m__law_cells x1113.1).bind fun r1238 =>
                compO r1238 () (fun x1242 (t1241 : Unit) kc1263 => (
                  (atI x1113.1 x1242.2).bind fun y1248 =>
                  (atI y1248 x1242.1).bind fun y1250 =>
                  (m__law_steps (x1193.1, x1193.2) x1242).bind fun r1257 =>
                  ck (mulOk x1113.2 r1257) (if (decide ((y1250.2 + (x1113.2 * r1257)) = x1210.2)) = true then (kc1263 (some x1242) ()) else kc1263 none ()))) [] fun (ys1261 : List (Int × Int)) (t1262 : Unit) => (
                  (atI ys1261 (0 : Int)).bind fun y1265 =>
                  let v_last_1266 : (Int × Int) := y1265
                  ((partD v_told_1126 (1 : Int)).bind fun y1269 =>
                  (partD y1269 x1193.2).bind fun y1271 =>
                  (partD y1271 x1193.1).bind fun y1273 =>
                  ck (SeqAt.shaped (eD.enc y1273) && SeqAt.shaped (eD.enc (PyData.tuple [PyData.int x1210.1, PyData.int x1210.2]))) (let k1289 := fun z : Bool => (some z)
                  if (!PyData.eqv (eD.enc y1273) (eD.enc (PyData.tuple [PyData.int x1210.1, PyData.int x1210.2]))) = true then k1289 true else ((partD v_told_1126 (2 : Int)).bind fun y1279 =>
                  (partD y1279 x1193.2).bind fun y1281 =>
                  (partD y1281 x1193.1).bind fun y1283 =>
                  ck (SeqAt.shaped (eD.enc y1283) && SeqAt.shaped (eD.enc (PyData.tuple [((eT2 eI eI).enc v_first_1236), ((eT2 eI eI).enc v_last_1266)]))) (k1289 (!PyData.eqv (eD.enc y1283) (eD.enc (PyData.tuple [((eT2 eI eI).enc v_first_1236), ((eT2 eI eI).enc v_last_1266)]))))))).bind fun z1287 : Bool =>
                  if z1287 = true then (
                    some false)
                  else (
                    kc1194 ())))))
              fun t1290 : Unit => (
              ck (rgOk 0 (3 : Int)) (forO (rangeL 0 (3 : Int)) t1187 (fun x1293 (t1292 : TSt) kc1294 => (
                compO x1113.1 () (fun x1298 (t1297 : Unit) kc1303 => (
                  kc1303 (some x1298) ())) [] fun (ys1301 : List (List (Int × Int))) (t1302 : Unit) => (
                  let v_plate_1304 : (List (List (Int × Int))) := ys1301
                  (m__law_cells x1113.1).bind fun r1306 =>
                  forO r1306 (t1292, v_plate_1304) (fun x1310 (t1309 : (TSt × (List (List (Int × Int))))) kc1311 => (
                    (m__law_least t1309.2 x1113.2 (x1310.1, x1310.2)).bind fun r1313 =>
                    (m__law_most t1309.2 x1113.2 (x1310.1, x1310.2)).bind fun r1319 =>
                    let x1325 : (Int × Int) := (r1313, r1319)
                    if (decide (x1325.2 < x1325.1)) = true then (
                      some false)
                    else (
                      (m__law_take t1309.1 ((x1325.2 - x1325.1) + (1 : Int))).bind fun r1336 =>
                      (atI ([x1325.1, x1325.2, (x1325.1 + r1336.1)]) x1293).bind fun y1339 =>
                      let v_value_1340 : Int := y1339
                      (ixN (List.length t1309.2) x1310.2).bind fun n1353 =>
                      (ixN (List.length (List.getD t1309.2 n1353 [])) x1310.1).bind fun n1354 =>
                      let z1350 : (List (List (Int × Int))) := List.set t1309.2 n1353 (List.set (List.getD t1309.2 n1353 []) n1354 (v_value_1340, v_value_1340))
                      ((partD v_told_1126 (1 : Int)).bind fun y1356 =>
                      (partD y1356 x1310.2).bind fun y1358 =>
                      (partD y1358 x1310.1).bind fun y1360 =>
                      (partD y1360 (0 : Int)).bind fun y1362 =>
                      (deI y1362).bind fun y1363 =>
                      let k1378 := fun z : Bool => (some z)
                      if decide (y1363 ≤ v_value_1340) = true then ((partD v_told_1126 (1 : Int)).bind fun y1367 =>
                      (partD y1367 x1310.2).bind fun y1369 =>
                      (partD y1369 x1310.1).bind fun y1371 =>
                      (partD y1371 (1 : Int)).bind fun y1373 =>
                      (deI y1373).bind fun y1374 =>
                      k1378 (decide (v_value_1340 ≤ y1374))) else k1378 false).bind fun z1376 : Bool =>
                      if (!z1376) = true then (
                        some false)
                      else (
                        kc1311 (r1336.2, z1350)))))
                    fun t1379 : (TSt × (List (List (Int × Int)))) => (
                    kc1294 t1379.1))))
                fun t1381 : TSt => (
                (reprO ((eL (eL (eT2 eI eI))).enc x1113.1)).bind fun y1382 =>
                some (decide (y1382 = v_kept_1116)))))))))))
section
variable {P : Program} {w : World} {K : Fg} {mg : Str → Option Value} {base : Heap}
abbrev n_cells_in : List Str := ["table", "high", "wide", "x", "y"]
theorem sc_cells_in : FnScope n_cells_in ["table"] (defScope s_cells_in) := ⟨rfl, rfl, rfl, by decide +kernel, rfl, by decide +kernel, by decide +kernel⟩
abbrev sp_cells_in (K : Fg) : Sp := spP K (fun a : (List (List (Int × Int))) × Unit => [.st none (List (List (Int × Int))) (it (eL (eL (eT2 eI eI)))) a.1]) (it (eL (eT2 eI eI))) (fun a => m_cells_in a.1)
set_option maxHeartbeats 0 in
theorem ok_cells_in (fa : Fa K mg) : FnOk P w K mg base CX0 1 fa.f_cells_in fa.fd_cells_in ["table"] (sp_cells_in K) := by
  refine fnP fa.F_cells_in sc_cells_in 4 rfl (fun _ => rfl) fun cdv A' outer s H E hr => ?_
  have nd := sc_cells_in.nd
  have hu := hr.units
  have hu5 : (A'.deeper (envOfC "cells_in" (defScope s_cells_in) s.heap.objs.size fa.f_cells_in cdv)).units + 65 < cLine := by have := hr.un; omega
  rintro ⟨a_table, _⟩
  exact lb_use (env := [.st none (List (List (Int × Int))) (it (eL (eL (eT2 eI eI)))) a_table, .un, .un, .un, .un])
    (lb_set 1 nd (lx_len lm_sh.w fa.z_len (lo_of (lx_var 0 cp_it rfl)) (fun _ => trivial)) (fun v_high_1 p2 => (lb_set 2 nd (lx_if (S := (it eI)) (lt_tru lm_sh.w (lo_of (lx_var 0 cp_it rfl)) (fun _ => trivial)) (fun p3 => (lx_len lm_sh.w fa.z_len (lo_of (lx_ix lm_sh.w (lo_of (lx_var 0 cp_it rfl)) (fun p4 => lx_int) (fun _ _ => trivial))) (fun _ => trivial))) (fun p3 => lx_int) (fun p3 _ => Sub.refl _) (fun p3 _ => Sub.refl _)) (fun v_wide_6 p7 => (lb_ret (lx_sh (fz_ls fz_it) (lx_lc2 rfl nd (blkOk_by (N := n_cells_in) (sc := defScope s_cells_in) (own := [("x", 3), ("y", 4)]) (by decide +kernel)) (li_range1 (by rfl) fa.z_range (lx_var 2 cp_it rfl)) [.st none (List (List (Int × Int))) (it (eL (eL (eT2 eI eI)))) a_table, .st none Int (it eI) v_high_1, .st none Int (it eI) v_wide_6, .un, .un] (fun p8 => (Sub.refl _)) (by intro i s hm he; simp at hm; rcases hm with rfl | rfl <;> (have e := Option.some.inj he; exact e.symm)) (fun _ _ _ _ _ => (lg_name 3 nd)) (fun _ _ _ _ _ x9 => (li_range1 (by rfl) fa.z_range (lx_var 1 cp_it rfl))) (fun _ _ _ _ _ x9 p10 => (lg_name 4 nd)) (fun _ _ _ _ _ x9 p10 y11 => ltl_nil) (fun _ _ _ _ _ x9 p10 y11 p12 => (lx_tup (la_cons (lx_var 3 cp_it rfl) (fun p14 => (la_cons (lx_var 4 cp_it rfl) (fun p15 => la_nil)))) (eT2 eI eI) (fun a : Int × Int × Unit => (a.1, a.2.1)) (fun a => [eI.enc a.1, eI.enc a.2.1]) (fun _ => (.cons (.cons .nil))) (fun _ => rfl))) (by intro x p i s hm he; simp at hm; subst hm; (have e := Option.some.inj he; exact e.symm)) (fun x9 p10 y11 p12 p13 => by exact (.keep (.keep (.keep (.keep (.drop Sub.nil)))))) (fun x9 p10 y11 p12 => by exact (.keep (.keep (.keep (.keep (.drop Sub.nil)))))) (fun x9 p10 => by exact (.keep (.keep (.keep (.drop (.keep Sub.nil)))))))) (fun _ => ()) (fun p => (.drop (.drop (.drop (.keep (.keep Sub.nil)))))))))))
    (by first | (unfold m_cells_in; dsimp only [id]; done) | (unfold m_cells_in; dsimp only [id]; rfl) | rfl)
abbrev n_at : List Str := ["table", "cell"]
theorem sc_at : FnScope n_at ["table", "cell"] (defScope s_at) := ⟨rfl, rfl, rfl, by decide +kernel, rfl, by decide +kernel, by decide +kernel⟩
abbrev sp_at (K : Fg) : Sp := spP K (fun a : (List (List PyData)) × (Int × Int) × Unit => [.st none (List (List PyData)) (it (eL (eL eD))) a.1, .st none (Int × Int) (it (eT2 eI eI)) a.2.1]) (it eD) (fun a => m_at a.1 a.2.1)
set_option maxHeartbeats 0 in
theorem ok_at (fa : Fa K mg) : FnOk P w K mg base CX0 1 fa.f_at fa.fd_at ["table", "cell"] (sp_at K) := by
  refine fnP fa.F_at sc_at 0 rfl (fun _ => rfl) fun cdv A' outer s H E hr => ?_
  have nd := sc_at.nd
  have hu := hr.units
  have hu5 : (A'.deeper (envOfC "at" (defScope s_at) s.heap.objs.size fa.f_at cdv)).units + 65 < cLine := by have := hr.un; omega
  rintro ⟨a_table, a_cell, _⟩
  exact lb_use (env := [.st none (List (List PyData)) (it (eL (eL eD))) a_table, .st none (Int × Int) (it (eT2 eI eI)) a_cell])
    (lb_ret (lx_ix lm_sh.w (lo_of (lx_ix lm_sh.w (lo_of (lx_var 0 cp_it rfl)) (fun p23 => (lx_part part2_1 (lx_var 1 cp_it rfl))) (fun _ _ => trivial))) (fun p25 => (lx_part part2_0 (lx_var 1 cp_it rfl))) (fun _ _ => trivial)) (fun _ => ()) (fun p => (.drop (.drop Sub.nil))))
    (by first | (unfold m_at; dsimp only [id]; done) | (unfold m_at; dsimp only [id]; rfl) | rfl)
abbrev n_steps : List Str := ["one", "other"]
theorem sc_steps : FnScope n_steps ["one", "other"] (defScope s_steps) := ⟨rfl, rfl, rfl, by decide +kernel, rfl, by decide +kernel, by decide +kernel⟩
abbrev sp_steps (K : Fg) : Sp := spP K (fun a : (Int × Int) × (Int × Int) × Unit => [.st none (Int × Int) (it (eT2 eI eI)) a.1, .st none (Int × Int) (it (eT2 eI eI)) a.2.1]) (it eI) (fun a => m_steps a.1 a.2.1)
set_option maxHeartbeats 0 in
theorem ok_steps (fa : Fa K mg) : FnOk P w K mg base CX0 1 fa.f_steps fa.fd_steps ["one", "other"] (sp_steps K) := by
  refine fnP fa.F_steps sc_steps 0 rfl (fun _ => rfl) fun cdv A' outer s H E hr => ?_
  have nd := sc_steps.nd
  have hu := hr.units
  have hu5 : (A'.deeper (envOfC "steps" (defScope s_steps) s.heap.objs.size fa.f_steps cdv)).units + 65 < cLine := by have := hr.un; omega
  rintro ⟨a_one, a_other, _⟩
  exact lb_use (env := [.st none (Int × Int) (it (eT2 eI eI)) a_one, .st none (Int × Int) (it (eT2 eI eI)) a_other])
    (lb_ret (lx_add (lx_abs fa.z_abs (lx_sub (lx_part part2_0 (lx_var 0 cp_it rfl)) (fun p28 => (lx_part part2_0 (lx_var 1 cp_it rfl))))) (fun p29 => (lx_abs fa.z_abs (lx_sub (lx_part part2_1 (lx_var 0 cp_it rfl)) (fun p30 => (lx_part part2_1 (lx_var 1 cp_it rfl))))))) (fun _ => ()) (fun p => (.drop (.drop Sub.nil))))
    (by first | (unfold m_steps; dsimp only [id]; done) | (unfold m_steps; dsimp only [id]; rfl) | rfl)
abbrev n_crossing : List Str := ["bounds", "slope", "cells", "one", "other"]
theorem sc_crossing : FnScope n_crossing ["bounds", "slope"] (defScope s_crossing) := ⟨rfl, rfl, rfl, by decide +kernel, rfl, by decide +kernel, by decide +kernel⟩
abbrev sp_crossing (K : Fg) : Sp := spP K (fun a : (List (List (Int × Int))) × Int × Unit => [.st none (List (List (Int × Int))) (it (eL (eL (eT2 eI eI)))) a.1, .st none Int (it eI) a.2.1]) (it (eO (eT2 (eT2 eI eI) (eT2 eI eI)) (fun _ h => by cases h))) (fun a => m_crossing a.1 a.2.1)
set_option maxHeartbeats 0 in
theorem ok_crossing (fa : Fa K mg) : FnOk P w K mg base CX0 2 fa.f_crossing fa.fd_crossing ["bounds", "slope"] (sp_crossing K) := by
  refine fnP fa.F_crossing sc_crossing 3 rfl (fun _ => rfl) fun cdv A' outer s H E hr => ?_
  have nd := sc_crossing.nd
  have hu := hr.units
  have hu5 : (A'.deeper (envOfC "crossing" (defScope s_crossing) s.heap.objs.size fa.f_crossing cdv)).units + 65 < cLine := by have := hr.un; omega
  rintro ⟨a_bounds, a_slope, _⟩
  exact lb_use (env := [.st none (List (List (Int × Int))) (it (eL (eL (eT2 eI eI)))) a_bounds, .st none Int (it eI) a_slope, .un, .un, .un])
    (lb_set 2 nd (lx_call (ok_cells_in fa) (hr.mono (by decide)) fa.g_cells_in fa.F_cells_in.kp fa.b_cells_in (fun _ => (.cons cp_it .nil)) (la_cons (lx_var 0 cp_it rfl) (fun p31 => la_nil))) (fun v_cells_33 p34 => (lb_for (envT := (fun t36 : Unit => [.st none (List (List (Int × Int))) (it (eL (eL (eT2 eI eI)))) a_bounds, .st none Int (it eI) a_slope, .st none (List (Int × Int)) (it (eL (eT2 eI eI))) v_cells_33, .un, .un])) PassesOwn.never rfl (li_list lm_sh.w (lx_var 2 cp_it rfl)) (fun p35 => ()) (fun p35 => (Sub.refl _)) (fun t36 => (lg_name 3 nd)) (fun x37 t36 kc38 kb39 => (lb_for (envT := (fun t41 : Unit => [.st none (List (List (Int × Int))) (it (eL (eL (eT2 eI eI)))) a_bounds, .st none Int (it eI) a_slope, .st none (List (Int × Int)) (it (eL (eT2 eI eI))) v_cells_33, .st none (Int × Int) (it (eT2 eI eI)) x37, .un])) PassesOwn.never rfl (li_list lm_sh.w (lx_var 2 cp_it rfl)) (fun p40 => ()) (fun p40 => (Sub.refl _)) (fun t41 => (lg_name 4 nd)) (fun x42 t41 kc43 kb44 => (lb_ifr (lt_cmp (lc_gt (lx_sub (lx_dec (E' := eI) dcI (lx_ixD (lx_call (ok_at fa) (hr.mono (by decide)) fa.g_at fa.F_at.kp fa.b_at (fun _ => (.cons cp_it (.cons cp_it .nil))) (la_cons (lx_as (E' := (eL (eL eD))) (lx_var 0 cp_it rfl) (List.map (List.map (eT2 eI eI).enc)) (fun _ => eLLD)) (fun p45 => (la_cons (lx_var 3 cp_it rfl) (fun p46 => la_nil))))) (fun p48 => lx_int))) (fun p51 => (lx_mul (lx_var 1 cp_it rfl) (fun p52 => (lx_call (ok_steps fa) (hr.mono (by decide)) fa.g_steps fa.F_steps.kp fa.b_steps (fun _ => (.cons cp_it (.cons cp_it .nil))) (la_cons (lx_var 3 cp_it rfl) (fun p53 => (la_cons (lx_var 4 cp_it rfl) (fun p54 => la_nil))))))))) (fun p56 => (lx_dec (E' := eI) dcI (lx_ixD (lx_call (ok_at fa) (hr.mono (by decide)) fa.g_at fa.F_at.kp fa.b_at (fun _ => (.cons cp_it (.cons cp_it .nil))) (la_cons (lx_as (E' := (eL (eL eD))) (lx_var 0 cp_it rfl) (List.map (List.map (eT2 eI eI).enc)) (fun _ => eLLD)) (fun p62 => (la_cons (lx_var 4 cp_it rfl) (fun p63 => la_nil))))) (fun p65 => lx_int))))) (nomark _)) (fun p68 => (lb_ret (lx_as (E' := (eO (eT2 (eT2 eI eI) (eT2 eI eI)) (fun _ h => by cases h))) (g := some) (lx_tup (la_cons (lx_var 3 cp_it rfl) (fun p69 => (la_cons (lx_var 4 cp_it rfl) (fun p70 => la_nil)))) (eT2 (eT2 eI eI) (eT2 eI eI)) (fun a : (Int × Int) × (Int × Int) × Unit => (a.1, a.2.1)) (fun a => [(eT2 eI eI).enc a.1, (eT2 eI eI).enc a.2.1]) (fun _ => (.cons (.cons .nil))) (fun _ => rfl)) (hg := fun _ => rfl)) (fun _ => ()) (fun p => (.drop (.drop (.drop (.drop (.drop Sub.nil)))))))) (fun p68 => (lb_end () (.keep (.keep (.keep (.keep (.drop Sub.nil))))))))) (fun t71 => (lb_end () (.keep (.keep (.keep (.drop (.keep Sub.nil))))))))) (fun t73 => (lb_ret (lx_as (E' := (eO (eT2 (eT2 eI eI) (eT2 eI eI)) (fun _ h => by cases h))) lx_non (fun _ => none) (fun _ => rfl)) (fun _ => ()) (fun p => (.drop (.drop (.drop (.keep (.keep Sub.nil)))))))))))
    (by first | (unfold m_crossing; dsimp only [id]; done) | (unfold m_crossing; dsimp only [id]; rfl) | rfl)
abbrev n_tightest : List Str := ["bounds", "slope", "cell", "least", "most", "other", "way", "low", "high"]
theorem sc_tightest : FnScope n_tightest ["bounds", "slope", "cell"] (defScope s_tightest) := ⟨rfl, rfl, rfl, by decide +kernel, rfl, by decide +kernel, by decide +kernel⟩
abbrev sp_tightest (K : Fg) : Sp := spP K (fun a : (List (List (Int × Int))) × Int × (Int × Int) × Unit => [.st none (List (List (Int × Int))) (it (eL (eL (eT2 eI eI)))) a.1, .st none Int (it eI) a.2.1, .st none (Int × Int) (it (eT2 eI eI)) a.2.2.1]) (it (eT3 (eT2 eI eI) (eT2 eI eI) (eT2 eI eI))) (fun a => m_tightest a.1 a.2.1 a.2.2.1)
set_option maxHeartbeats 0 in
theorem ok_tightest (fa : Fa K mg) : FnOk P w K mg base CX0 2 fa.f_tightest fa.fd_tightest ["bounds", "slope", "cell"] (sp_tightest K) := by
  refine fnP fa.F_tightest sc_tightest 6 rfl (fun _ => rfl) fun cdv A' outer s H E hr => ?_
  have nd := sc_tightest.nd
  have hu := hr.units
  have hu5 : (A'.deeper (envOfC "tightest" (defScope s_tightest) s.heap.objs.size fa.f_tightest cdv)).units + 65 < cLine := by have := hr.un; omega
  rintro ⟨a_bounds, a_slope, a_cell, _⟩
  exact lb_use (env := [.st none (List (List (Int × Int))) (it (eL (eL (eT2 eI eI)))) a_bounds, .st none Int (it eI) a_slope, .st none (Int × Int) (it (eT2 eI eI)) a_cell, .un, .un, .un, .un, .un, .un])
    (lb_set 3 nd (lx_as (E' := (eO (eT2 eI (eT2 eI eI)) (fun _ h => by cases h))) lx_non (fun _ => none) (fun _ => rfl)) (fun v_least_75 p76 => (lb_set 4 nd (lx_as (E' := (eO (eT2 eI (eT2 eI eI)) (fun _ h => by cases h))) lx_non (fun _ => none) (fun _ => rfl)) (fun v_most_77 p78 => (lb_for (envT := (fun t82 : ((Option (Int × (Int × Int))) × (Option (Int × (Int × Int)))) => [.st none (List (List (Int × Int))) (it (eL (eL (eT2 eI eI)))) a_bounds, .st none Int (it eI) a_slope, .st none (Int × Int) (it (eT2 eI eI)) a_cell, .st none (Option (Int × (Int × Int))) (it (eO (eT2 eI (eT2 eI eI)) (fun _ h => by cases h))) t82.1, .st none (Option (Int × (Int × Int))) (it (eO (eT2 eI (eT2 eI eI)) (fun _ h => by cases h))) t82.2, .un, .un, .un, .un])) PassesOwn.never rfl (li_list lm_sh.w (lx_call (ok_cells_in fa) (hr.mono (by decide)) fa.g_cells_in fa.F_cells_in.kp fa.b_cells_in (fun _ => (.cons cp_it .nil)) (la_cons (lx_var 0 cp_it rfl) (fun p79 => la_nil)))) (fun p81 => (v_least_75, v_most_77)) (fun p81 => (Sub.refl _)) (fun t82 => (lg_name 5 nd)) (fun x83 t82 kc84 kb85 => (lb_set 6 nd (lx_mul (lx_var 1 cp_it rfl) (fun p86 => (lx_call (ok_steps fa) (hr.mono (by decide)) fa.g_steps fa.F_steps.kp fa.b_steps (fun _ => (.cons cp_it (.cons cp_it .nil))) (la_cons (lx_var 2 cp_it rfl) (fun p87 => (la_cons (lx_var 5 cp_it rfl) (fun p88 => la_nil))))))) (fun v_way_90 p91 => (lb_set 7 nd (lx_sub (lx_dec (E' := eI) dcI (lx_ixD (lx_call (ok_at fa) (hr.mono (by decide)) fa.g_at fa.F_at.kp fa.b_at (fun _ => (.cons cp_it (.cons cp_it .nil))) (la_cons (lx_as (E' := (eL (eL eD))) (lx_var 0 cp_it rfl) (List.map (List.map (eT2 eI eI).enc)) (fun _ => eLLD)) (fun p92 => (la_cons (lx_var 5 cp_it rfl) (fun p93 => la_nil))))) (fun p95 => lx_int))) (fun p98 => (lx_var 6 cp_it rfl))) (fun v_low_99 p100 => (lb_set 8 nd (lx_add (lx_dec (E' := eI) dcI (lx_ixD (lx_call (ok_at fa) (hr.mono (by decide)) fa.g_at fa.F_at.kp fa.b_at (fun _ => (.cons cp_it (.cons cp_it .nil))) (la_cons (lx_as (E' := (eL (eL eD))) (lx_var 0 cp_it rfl) (List.map (List.map (eT2 eI eI).enc)) (fun _ => eLLD)) (fun p106 => (la_cons (lx_var 5 cp_it rfl) (fun p107 => la_nil))))) (fun p109 => lx_int))) (fun p111 => (lx_var 6 cp_it rfl))) (fun v_high_113 p114 => (lb_if (env1 := (fun j120 : (Option (Int × (Int × Int))) => [.st none (List (List (Int × Int))) (it (eL (eL (eT2 eI eI)))) a_bounds, .st none Int (it eI) a_slope, .st none (Int × Int) (it (eT2 eI eI)) a_cell, .st none (Option (Int × (Int × Int))) (it (eO (eT2 eI (eT2 eI eI)) (fun _ h => by cases h))) j120, .st none (Option (Int × (Int × Int))) (it (eO (eT2 eI (eT2 eI eI)) (fun _ h => by cases h))) t82.2, .st none (Int × Int) (it (eT2 eI eI)) x83, .st none Int (it eI) v_way_90, .st none Int (it eI) v_low_99, .st none Int (it eI) v_high_113])) (lt_cut (lt_w (lw_or (lt_cmp (lc_isN (lx_var 3 cp_it rfl)) (nomark _)) (fun p115 => (lw_or1 (lt_cmp (lc_gt (lx_var 7 cp_it rfl) (fun p116 => (lx_part part2_0 (lx_cast (E' := (eT2 eI (eT2 eI eI))) (lx_var 3 cp_it rfl) id (fun a b h => by have h : a = some b := h; subst h; rfl))))) (nomark _)))) (fun p115 _ => Sub.refl _))) (fun _ => rfl)) (fun p119 => (lb_set 3 nd (lx_as (E' := (eO (eT2 eI (eT2 eI eI)) (fun _ h => by cases h))) (g := some) (lx_tup (la_cons (lx_var 7 cp_it rfl) (fun p122 => (la_cons (lx_var 5 cp_it rfl) (fun p123 => la_nil)))) (eT2 eI (eT2 eI eI)) (fun a : Int × (Int × Int) × Unit => (a.1, a.2.1)) (fun a => [eI.enc a.1, (eT2 eI eI).enc a.2.1]) (fun _ => (.cons (.cons .nil))) (fun _ => rfl)) (hg := fun _ => rfl)) (fun v_least_124 p125 => (lb_end v_least_124 (Sub.refl _))))) (fun p119 => (lb_end t82.1 (Sub.refl _))) (fun j120 => (lb_if (env1 := (fun j131 : (Option (Int × (Int × Int))) => [.st none (List (List (Int × Int))) (it (eL (eL (eT2 eI eI)))) a_bounds, .st none Int (it eI) a_slope, .st none (Int × Int) (it (eT2 eI eI)) a_cell, .st none (Option (Int × (Int × Int))) (it (eO (eT2 eI (eT2 eI eI)) (fun _ h => by cases h))) j120, .st none (Option (Int × (Int × Int))) (it (eO (eT2 eI (eT2 eI eI)) (fun _ h => by cases h))) j131, .st none (Int × Int) (it (eT2 eI eI)) x83, .st none Int (it eI) v_way_90, .st none Int (it eI) v_low_99, .st none Int (it eI) v_high_113])) (lt_cut (lt_w (lw_or (lt_cmp (lc_isN (lx_var 4 cp_it rfl)) (nomark _)) (fun p126 => (lw_or1 (lt_cmp (lc_lt (lx_var 8 cp_it rfl) (fun p127 => (lx_part part2_0 (lx_cast (E' := (eT2 eI (eT2 eI eI))) (lx_var 4 cp_it rfl) id (fun a b h => by have h : a = some b := h; subst h; rfl))))) (nomark _)))) (fun p126 _ => Sub.refl _))) (fun _ => rfl)) (fun p130 => (lb_set 4 nd (lx_as (E' := (eO (eT2 eI (eT2 eI eI)) (fun _ h => by cases h))) (g := some) (lx_tup (la_cons (lx_var 8 cp_it rfl) (fun p133 => (la_cons (lx_var 5 cp_it rfl) (fun p134 => la_nil)))) (eT2 eI (eT2 eI eI)) (fun a : Int × (Int × Int) × Unit => (a.1, a.2.1)) (fun a => [eI.enc a.1, (eT2 eI eI).enc a.2.1]) (fun _ => (.cons (.cons .nil))) (fun _ => rfl)) (hg := fun _ => rfl)) (fun v_most_135 p136 => (lb_end v_most_135 (Sub.refl _))))) (fun p130 => (lb_end t82.2 (Sub.refl _))) (fun j131 => (lb_end (j120, j131) (.keep (.keep (.keep (.keep (.keep (.drop (.drop (.drop (.drop Sub.nil))))))))))))))))))))) (fun t139 => (lb_ret (lx_tup (la_cons (lx_tup (la_cons (lx_part part2_0 (lx_cast (E' := (eT2 eI (eT2 eI eI))) (lx_var 3 cp_it rfl) id (fun a b h => by have h : a = some b := h; subst h; rfl))) (fun p141 => (la_cons (lx_part part2_0 (lx_cast (E' := (eT2 eI (eT2 eI eI))) (lx_var 4 cp_it rfl) id (fun a b h => by have h : a = some b := h; subst h; rfl))) (fun p143 => la_nil)))) (eT2 eI eI) (fun a : Int × Int × Unit => (a.1, a.2.1)) (fun a => [eI.enc a.1, eI.enc a.2.1]) (fun _ => (.cons (.cons .nil))) (fun _ => rfl)) (fun p144 => (la_cons (lx_part part2_1 (lx_cast (E' := (eT2 eI (eT2 eI eI))) (lx_var 3 cp_it rfl) id (fun a b h => by have h : a = some b := h; subst h; rfl))) (fun p146 => (la_cons (lx_part part2_1 (lx_cast (E' := (eT2 eI (eT2 eI eI))) (lx_var 4 cp_it rfl) id (fun a b h => by have h : a = some b := h; subst h; rfl))) (fun p148 => la_nil)))))) (eT3 (eT2 eI eI) (eT2 eI eI) (eT2 eI eI)) (fun a : (Int × Int) × (Int × Int) × (Int × Int) × Unit => (a.1, a.2.1, a.2.2.1)) (fun a => [(eT2 eI eI).enc a.1, (eT2 eI eI).enc a.2.1, (eT2 eI eI).enc a.2.2.1]) (fun _ => (.cons (.cons (.cons .nil)))) (fun _ => rfl)) (fun _ => ()) (fun p => (.drop (.drop (.drop (.drop (.drop (.keep (.keep (.keep (.keep Sub.nil)))))))))))))))))
    (by first | (unfold m_tightest; dsimp only [id]; done) | (unfold m_tightest; dsimp only [id]; rfl) | rfl)
abbrev n_tighten : List Str := ["bounds", "slope", "pair", "table", "holds", "y", "told", "x", "row"]
theorem sc_tighten : FnScope n_tighten ["bounds", "slope"] (defScope s_tighten) := ⟨rfl, rfl, rfl, by decide +kernel, rfl, by decide +kernel, by decide +kernel⟩
abbrev sp_tighten (K : Fg) : Sp := spP K (fun a : (List (List (Int × Int))) × Int × Unit => [.st none (List (List (Int × Int))) (it (eL (eL (eT2 eI eI)))) a.1, .st none Int (it eI) a.2.1]) (it eD) (fun a => m_tighten a.1 a.2.1)
set_option maxHeartbeats 0 in
theorem ok_tighten (fa : Fa K mg) : FnOk P w K mg base CX0 3 fa.f_tighten fa.fd_tighten ["bounds", "slope"] (sp_tighten K) := by
  refine fnP fa.F_tighten sc_tighten 7 rfl (fun _ => rfl) fun cdv A' outer s H E hr => ?_
  have nd := sc_tighten.nd
  have hu := hr.units
  have hu5 : (A'.deeper (envOfC "tighten" (defScope s_tighten) s.heap.objs.size fa.f_tighten cdv)).units + 65 < cLine := by have := hr.un; omega
  rintro ⟨a_bounds, a_slope, _⟩
  exact lb_use (env := [.st none (List (List (Int × Int))) (it (eL (eL (eT2 eI eI)))) a_bounds, .st none Int (it eI) a_slope, .un, .un, .un, .un, .un, .un, .un])
    (lb_set 2 nd (lx_call (ok_crossing fa) (hr.mono (by decide)) fa.g_crossing fa.F_crossing.kp fa.b_crossing (fun _ => (.cons cp_it (.cons cp_it .nil))) (la_cons (lx_var 0 cp_it rfl) (fun p150 => (la_cons (lx_var 1 cp_it rfl) (fun p151 => la_nil))))) (fun v_pair_153 p154 => (lb_ifr (lt_cmp (lc_notN (lx_var 2 cp_it rfl)) (nomark _)) (fun p155 => (lb_ret (lx_as (E' := eD) (lx_catT (E3 := (eT3 eS (eT2 eI eI) (eT2 eI eI))) (g := fun (x : (Str)) (y : ((Int × Int) × (Int × Int))) => (x, y.1, y.2)) ⟨fun _ _ => ⟨_, _, rfl, rfl, rfl, Nat.le_of_ble_eq_true rfl⟩⟩ (lx_tup (la_cons lx_str (fun p156 => la_nil)) (eT1 eS) (fun a : Str × Unit => (a.1)) (fun a => [eS.enc a.1]) (fun _ => (.cons .nil)) (fun _ => rfl)) (fun p157 => (lx_cast (E' := (eT2 (eT2 eI eI) (eT2 eI eI))) (lx_var 2 cp_it rfl) id (fun a b h => by have h : a = some b := h; subst h; rfl)))) (eT3 eS (eT2 eI eI) (eT2 eI eI)).enc (fun _ => rfl)) (fun _ => ()) (fun p => (.drop (.drop (.drop (.keep (.keep (.keep (.keep (.keep (.keep Sub.nil)))))))))))) (fun p155 => (lb_set 3 nd (lx_list la_nil (eL (eT2 eI eI)) (fun _ => []) (fun _ => .nil)) (fun v_table_159 p160 => (lb_set 4 nd (lx_list la_nil (eL (eT2 (eT2 eI eI) (eT2 eI eI))) (fun _ => []) (fun _ => .nil)) (fun v_holds_161 p162 => (lb_for (envT := (fun t164 : ((List (List (Int × Int))) × (List (List ((Int × Int) × (Int × Int))))) => [.st none (List (List (Int × Int))) (it (eL (eL (eT2 eI eI)))) a_bounds, .st none Int (it eI) a_slope, .st none (Option ((Int × Int) × (Int × Int))) (it (eO (eT2 (eT2 eI eI) (eT2 eI eI)) (fun _ h => by cases h))) v_pair_153, .st none (List (List (Int × Int))) (ls (it (eL (eT2 eI eI)))) t164.1, .st none (List (List ((Int × Int) × (Int × Int)))) (ls (it (eL (eT2 (eT2 eI eI) (eT2 eI eI))))) t164.2, .un, .un, .un, .un])) PassesOwn.never rfl (li_range1 (by rfl) fa.z_range (lx_len lm_sh.w fa.z_len (lo_of (lx_var 0 cp_it rfl)) (fun _ => trivial))) (fun p163 => (v_table_159, v_holds_161)) (fun p163 => (Sub.refl _)) (fun t164 => (lg_name 5 nd)) (fun x165 t164 kc166 kb167 => (lb_setLc (envT := (fun t171 : Unit => [.st none (List (List (Int × Int))) (it (eL (eL (eT2 eI eI)))) a_bounds, .st none Int (it eI) a_slope, .st none (Option ((Int × Int) × (Int × Int))) (it (eO (eT2 (eT2 eI eI) (eT2 eI eI)) (fun _ h => by cases h))) v_pair_153, .st none (List (List (Int × Int))) (ls (it (eL (eT2 eI eI)))) t164.1, .st none (List (List ((Int × Int) × (Int × Int)))) (ls (it (eL (eT2 (eT2 eI eI) (eT2 eI eI))))) t164.2, .st none Int (it eI) x165, .un, .un, .un])) rfl nd (blkOk_by (N := n_tighten) (sc := defScope s_tighten) (own := [("x", 7)]) (by decide +kernel)) 6 (li_range1 (by rfl) fa.z_range (lx_len lm_sh.w fa.z_len (lo_of (lx_ix lm_sh.w (lo_of (lx_var 0 cp_it rfl)) (fun p168 => lx_int) (fun _ _ => trivial))) (fun _ => trivial))) (fun p170 => ()) (fun p170 => (Sub.refl _)) (by intro t i s hm he; simp at hm; subst hm; (have e := Option.some.inj he; exact e.symm)) (fun _ _ _ _ _ t171 => (lg_name 7 nd)) (fun _ _ _ _ _ t171 x172 => ltl_nil) (fun _ _ _ _ _ t171 x172 p173 => (lx_call (ok_tightest fa) (hr.mono (by decide)) fa.g_tightest fa.F_tightest.kp fa.b_tightest (fun _ => (.cons cp_it (.cons cp_it (.cons cp_it .nil)))) (la_cons (lx_var 0 cp_it rfl) (fun p174 => (la_cons (lx_var 1 cp_it rfl) (fun p175 => (la_cons (lx_tup (la_cons (lx_var 7 cp_it rfl) (fun p176 => (la_cons (lx_var 5 cp_it rfl) (fun p177 => la_nil)))) (eT2 eI eI) (fun a : Int × Int × Unit => (a.1, a.2.1)) (fun a => [eI.enc a.1, eI.enc a.2.1]) (fun _ => (.cons (.cons .nil))) (fun _ => rfl)) (fun p178 => la_nil)))))))) (fun t171 x172 p173 p180 => ()) (fun t171 x172 p173 p180 => by exact (.keep (.keep (.keep (.keep (.keep (.keep (.keep (.drop (.keep Sub.nil)))))))))) (fun t171 x172 p173 => ()) (fun t171 x172 p173 => by exact (.keep (.keep (.keep (.keep (.keep (.keep (.keep (.drop (.keep Sub.nil)))))))))) (fun v_told_184 p185 => (lb_app 3 rfl (lx_sh (fz_ls fz_it) (lx_lc (envT := (fun t189 : Unit => [.st none (List (List (Int × Int))) (it (eL (eL (eT2 eI eI)))) a_bounds, .st none Int (it eI) a_slope, .st none (Option ((Int × Int) × (Int × Int))) (it (eO (eT2 (eT2 eI eI) (eT2 eI eI)) (fun _ h => by cases h))) v_pair_153, .st none (List (List (Int × Int))) (ls (it (eL (eT2 eI eI)))) t164.1, .st none (List (List ((Int × Int) × (Int × Int)))) (ls (it (eL (eT2 (eT2 eI eI) (eT2 eI eI))))) t164.2, .st none Int (it eI) x165, .st none (List ((Int × Int) × (Int × Int) × (Int × Int))) (it (eL (eT3 (eT2 eI eI) (eT2 eI eI) (eT2 eI eI)))) v_told_184, .un, .un])) rfl nd (blkOk_by (N := n_tighten) (sc := defScope s_tighten) (own := [("row", 8)]) (by decide +kernel)) (li_list lm_sh.w (lx_frz 6 (fz_ls fz_it) rfl)) (fun p188 => ()) (fun p188 => (Sub.refl _)) (by intro t i s hm he; simp at hm; subst hm; (have e := Option.some.inj he; exact e.symm)) (fun _ _ _ _ _ t189 => (lg_name 8 nd)) (fun _ _ _ _ _ t189 x190 => ltl_nil) (fun _ _ _ _ _ t189 x190 p191 => (lx_part part3_0 (lx_var 8 cp_it rfl))) (fun t189 x190 p191 p192 => ()) (fun t189 x190 p191 p192 => by exact (.keep (.keep (.keep (.keep (.keep (.keep (.keep (.keep (.drop Sub.nil)))))))))) (fun t189 x190 p191 => ()) (fun t189 x190 p191 => by exact (.keep (.keep (.keep (.keep (.keep (.keep (.keep (.keep (.drop Sub.nil)))))))))))) (fun _ => rfl) (fun y187 p186 => (lb_app 4 rfl (lx_sh (fz_ls fz_it) (lx_lc (envT := (fun t200 : Unit => [.st none (List (List (Int × Int))) (it (eL (eL (eT2 eI eI)))) a_bounds, .st none Int (it eI) a_slope, .st none (Option ((Int × Int) × (Int × Int))) (it (eO (eT2 (eT2 eI eI) (eT2 eI eI)) (fun _ h => by cases h))) v_pair_153, .st none (List (List (Int × Int))) (ls (it (eL (eT2 eI eI)))) (t164.1 ++ [y187]), .st none (List (List ((Int × Int) × (Int × Int)))) (ls (it (eL (eT2 (eT2 eI eI) (eT2 eI eI))))) t164.2, .st none Int (it eI) x165, .st none (List ((Int × Int) × (Int × Int) × (Int × Int))) (it (eL (eT3 (eT2 eI eI) (eT2 eI eI) (eT2 eI eI)))) v_told_184, .un, .un])) rfl nd (blkOk_by (N := n_tighten) (sc := defScope s_tighten) (own := [("row", 8)]) (by decide +kernel)) (li_list lm_sh.w (lx_var 6 cp_it rfl)) (fun p199 => ()) (fun p199 => (Sub.refl _)) (by intro t i s hm he; simp at hm; subst hm; (have e := Option.some.inj he; exact e.symm)) (fun _ _ _ _ _ t200 => (lg_name 8 nd)) (fun _ _ _ _ _ t200 x201 => ltl_nil) (fun _ _ _ _ _ t200 x201 p202 => (lx_cutL (E' := (eT2 (eT2 eI eI) (eT2 eI eI))) (g := fun x : ((Int × Int) × (Int × Int) × (Int × Int)) => (x.2.1, x.2.2)) ⟨fun _ => ⟨_, rfl, rfl⟩⟩ (lx_var 8 cp_it rfl))) (fun t200 x201 p202 p203 => ()) (fun t200 x201 p202 p203 => by exact (.keep (.keep (.keep (.keep (.keep (.keep (.keep (.keep (.drop Sub.nil)))))))))) (fun t200 x201 p202 => ()) (fun t200 x201 p202 => by exact (.keep (.keep (.keep (.keep (.keep (.keep (.keep (.keep (.drop Sub.nil)))))))))))) (fun _ => rfl) (fun y198 p197 => (lb_end ((t164.1 ++ [y187]), (t164.2 ++ [y198])) (.keep (.keep (.keep (.keep (.keep (.drop (.drop (.keep (.keep Sub.nil))))))))))))))) (sw_true rfl rfl rfl (by decide +kernel)))) (fun t208 => (lb_ret (lx_tup (la_cons lx_str (fun p209 => (la_cons (lx_frz 3 (fz_ls fz_it) rfl) (fun p210 => (la_cons (lx_frz 4 (fz_ls fz_it) rfl) (fun p211 => la_nil)))))) eD (fun a : Str × (List (List (Int × Int))) × (List (List ((Int × Int) × (Int × Int)))) × Unit => PyData.tuple [eS.enc a.1, (eL (eL (eT2 eI eI))).enc a.2.1, (eL (eL (eT2 (eT2 eI eI) (eT2 eI eI)))).enc a.2.2.1]) (fun a => [eS.enc a.1, (eL (eL (eT2 eI eI))).enc a.2.1, (eL (eL (eT2 (eT2 eI eI) (eT2 eI eI)))).enc a.2.2.1]) (fun _ => (.cons (.cons (.cons .nil)))) (fun _ => rfl)) (fun _ => ()) (fun p => (.drop (.drop (.drop (.drop (.drop (.keep (.keep (.keep (.keep Sub.nil)))))))))))))))))))))
    (by first | (unfold m_tighten; dsimp only [id]; done) | (unfold m_tighten; dsimp only [id]; rfl) | rfl)
abbrev n_cell_fault : List Str := ["bounds", "slope", "table", "held", "cell", "low", "high", "other", "one", "cells"]
theorem sc_cell_fault : FnScope n_cell_fault ["bounds", "slope", "table", "held", "cell"] (defScope s_cell_fault) := ⟨rfl, rfl, rfl, by decide +kernel, rfl, by decide +kernel, by decide +kernel⟩
abbrev sp_cell_fault (K : Fg) : Sp := spP K (fun a : (List (List (Int × Int))) × Int × (List (List (Int × Int))) × ((Int × Int) × (Int × Int)) × (Int × Int) × Unit => [.st none (List (List (Int × Int))) (it (eL (eL (eT2 eI eI)))) a.1, .st none Int (it eI) a.2.1, .st none (List (List (Int × Int))) (it (eL (eL (eT2 eI eI)))) a.2.2.1, .st none ((Int × Int) × (Int × Int)) (it (eT2 (eT2 eI eI) (eT2 eI eI))) a.2.2.2.1, .st none (Int × Int) (it (eT2 eI eI)) a.2.2.2.2.1]) (it eD) (fun a => m_cell_fault a.1 a.2.1 a.2.2.1 a.2.2.2.1 a.2.2.2.2.1)
set_option maxHeartbeats 0 in
theorem ok_cell_fault (fa : Fa K mg) : FnOk P w K mg base CX0 2 fa.f_cell_fault fa.fd_cell_fault ["bounds", "slope", "table", "held", "cell"] (sp_cell_fault K) := by
  refine fnP fa.F_cell_fault sc_cell_fault 5 rfl (fun _ => rfl) fun cdv A' outer s H E hr => ?_
  have nd := sc_cell_fault.nd
  have hu := hr.units
  have hu5 : (A'.deeper (envOfC "cell_fault" (defScope s_cell_fault) s.heap.objs.size fa.f_cell_fault cdv)).units + 65 < cLine := by have := hr.un; omega
  rintro ⟨a_bounds, a_slope, a_table, a_held, a_cell, _⟩
  exact lb_use (env := [.st none (List (List (Int × Int))) (it (eL (eL (eT2 eI eI)))) a_bounds, .st none Int (it eI) a_slope, .st none (List (List (Int × Int))) (it (eL (eL (eT2 eI eI)))) a_table, .st none ((Int × Int) × (Int × Int)) (it (eT2 (eT2 eI eI) (eT2 eI eI))) a_held, .st none (Int × Int) (it (eT2 eI eI)) a_cell, .un, .un, .un, .un, .un])
    (lb_asg (lx_dec (E' := (eT2 eI eI)) (dcT2 dcI dcI) (lx_call (ok_at fa) (hr.mono (by decide)) fa.g_at fa.F_at.kp fa.b_at (fun _ => (.cons cp_it (.cons cp_it .nil))) (la_cons (lx_as (E' := (eL (eL eD))) (lx_var 2 cp_it rfl) (List.map (List.map (eT2 eI eI).enc)) (fun _ => eLLD)) (fun p213 => (la_cons (lx_var 4 cp_it rfl) (fun p214 => la_nil)))))) (fun p218 => (lg_tup (E := (eT2 eI eI)) (lgs_cons (lg_name 5 nd) (fun _ => (lgs_cons (lg_name 6 nd) (fun _ => lgs_nil)))) (fun x => (x.1, x.2, ())) (fun a : Int × Int × Unit => [eI.enc (a.1), eI.enc (a.2.1)]) (fun _ => (.cons (.cons .nil))) (fun _ => rfl) rfl (fun _ => rfl))) (fun x217 p218 => (lb_ifr (lt_cmp (lc_gt (lx_var 5 cp_it rfl) (fun p219 => (lx_var 6 cp_it rfl))) (nomark _)) (fun p220 => (lb_ret (lx_tup (la_cons lx_str (fun p221 => (la_cons (lx_var 4 cp_it rfl) (fun p222 => la_nil)))) eD (fun a : Str × (Int × Int) × Unit => PyData.tuple [eS.enc a.1, (eT2 eI eI).enc a.2.1]) (fun a => [eS.enc a.1, (eT2 eI eI).enc a.2.1]) (fun _ => (.cons (.cons .nil))) (fun _ => rfl)) (fun _ => ()) (fun p => (.drop (.drop (.drop (.drop (.drop (.drop (.drop (.keep (.keep (.keep Sub.nil))))))))))))) (fun p220 => (lb_ifr (lt_cut (lt_w (lw_or (lt_cmp (lc_lt (lx_var 5 cp_it rfl) (fun p223 => (lx_dec (E' := eI) dcI (lx_ixD (lx_call (ok_at fa) (hr.mono (by decide)) fa.g_at fa.F_at.kp fa.b_at (fun _ => (.cons cp_it (.cons cp_it .nil))) (la_cons (lx_as (E' := (eL (eL eD))) (lx_var 0 cp_it rfl) (List.map (List.map (eT2 eI eI).enc)) (fun _ => eLLD)) (fun p229 => (la_cons (lx_var 4 cp_it rfl) (fun p230 => la_nil))))) (fun p232 => lx_int))))) (nomark _)) (fun p235 => (lw_or1 (lt_cmp (lc_gt (lx_var 6 cp_it rfl) (fun p236 => (lx_dec (E' := eI) dcI (lx_ixD (lx_call (ok_at fa) (hr.mono (by decide)) fa.g_at fa.F_at.kp fa.b_at (fun _ => (.cons cp_it (.cons cp_it .nil))) (la_cons (lx_as (E' := (eL (eL eD))) (lx_var 0 cp_it rfl) (List.map (List.map (eT2 eI eI).enc)) (fun _ => eLLD)) (fun p242 => (la_cons (lx_var 4 cp_it rfl) (fun p243 => la_nil))))) (fun p245 => lx_int))))) (nomark _)))) (fun p235 _ => Sub.refl _))) (fun _ => rfl)) (fun p249 => (lb_ret (lx_tup (la_cons lx_str (fun p250 => (la_cons (lx_var 4 cp_it rfl) (fun p251 => la_nil)))) eD (fun a : Str × (Int × Int) × Unit => PyData.tuple [eS.enc a.1, (eT2 eI eI).enc a.2.1]) (fun a => [eS.enc a.1, (eT2 eI eI).enc a.2.1]) (fun _ => (.cons (.cons .nil))) (fun _ => rfl)) (fun _ => ()) (fun p => (.drop (.drop (.drop (.drop (.drop (.drop (.drop (.keep (.keep (.keep Sub.nil))))))))))))) (fun p249 => (lb_for (envT := (fun t264 : Unit => [.st none (List (List (Int × Int))) (it (eL (eL (eT2 eI eI)))) a_bounds, .st none Int (it eI) a_slope, .st none (List (List (Int × Int))) (it (eL (eL (eT2 eI eI)))) a_table, .st none ((Int × Int) × (Int × Int)) (it (eT2 (eT2 eI eI) (eT2 eI eI))) a_held, .st none (Int × Int) (it (eT2 eI eI)) a_cell, .st none Int (it eI) x217.1, .st none Int (it eI) x217.2, .un, .un, .un])) PassesOwn.never rfl (li_tup tv_sh (lx_tup (la_cons (lx_tup (la_cons (lx_add (lx_part part2_0 (lx_var 4 cp_it rfl)) (fun p255 => lx_int)) (fun p256 => (la_cons (lx_part part2_1 (lx_var 4 cp_it rfl)) (fun p257 => la_nil)))) (eT2 eI eI) (fun a : Int × Int × Unit => (a.1, a.2.1)) (fun a => [eI.enc a.1, eI.enc a.2.1]) (fun _ => (.cons (.cons .nil))) (fun _ => rfl)) (fun p258 => (la_cons (lx_tup (la_cons (lx_part part2_0 (lx_var 4 cp_it rfl)) (fun p259 => (la_cons (lx_add (lx_part part2_1 (lx_var 4 cp_it rfl)) (fun p260 => lx_int)) (fun p261 => la_nil)))) (eT2 eI eI) (fun a : Int × Int × Unit => (a.1, a.2.1)) (fun a => [eI.enc a.1, eI.enc a.2.1]) (fun _ => (.cons (.cons .nil))) (fun _ => rfl)) (fun p262 => la_nil)))) (eV (eT2 eI eI)) (fun a : (Int × Int) × (Int × Int) × Unit => [a.1, a.2.1]) (fun a => [(eT2 eI eI).enc a.1, (eT2 eI eI).enc a.2.1]) (fun _ => (.cons (.cons .nil))) (fun _ => rfl))) (fun p263 => ()) (fun p263 => (Sub.refl _)) (fun t264 => (lg_name 7 nd)) (fun x265 t264 kc266 kb267 => (lb_if (env1 := (fun j275 : Unit => [.st none (List (List (Int × Int))) (it (eL (eL (eT2 eI eI)))) a_bounds, .st none Int (it eI) a_slope, .st none (List (List (Int × Int))) (it (eL (eL (eT2 eI eI)))) a_table, .st none ((Int × Int) × (Int × Int)) (it (eT2 (eT2 eI eI) (eT2 eI eI))) a_held, .st none (Int × Int) (it (eT2 eI eI)) a_cell, .st none Int (it eI) x217.1, .st none Int (it eI) x217.2, .st none (Int × Int) (it (eT2 eI eI)) x265, .un, .un])) (lt_cut (lt_w (lw_and (lt_cmp (lc_lt (lx_part part2_0 (lx_var 7 cp_it rfl)) (fun p268 => (lx_len lm_sh.w fa.z_len (lo_of (lx_ix lm_sh.w (lo_of (lx_var 2 cp_it rfl)) (fun p269 => lx_int) (fun _ _ => trivial))) (fun _ => trivial)))) (nomark _)) (fun p271 => (lw_and1 (lt_cmp (lc_lt (lx_part part2_1 (lx_var 7 cp_it rfl)) (fun p272 => (lx_len lm_sh.w fa.z_len (lo_of (lx_var 2 cp_it rfl)) (fun _ => trivial)))) (nomark _)))) (fun p271 _ => Sub.refl _))) (fun _ => rfl)) (fun p274 => (lb_set 8 nd (lx_call (ok_at fa) (hr.mono (by decide)) fa.g_at fa.F_at.kp fa.b_at (fun _ => (.cons cp_it (.cons cp_it .nil))) (la_cons (lx_as (E' := (eL (eL eD))) (lx_var 2 cp_it rfl) (List.map (List.map (eT2 eI eI).enc)) (fun _ => eLLD)) (fun p277 => (la_cons (lx_var 7 cp_it rfl) (fun p278 => la_nil))))) (fun v_one_280 p281 => (lb_ifr (lt_cmp (lc_gt (lx_max2 rfl fa.z_max (lx_abs fa.z_abs (lx_sub (lx_var 5 cp_it rfl) (fun p282 => (lx_dec (E' := eI) dcI (lx_ixD (lx_var 8 cp_it rfl) (fun p283 => lx_int)))))) (fun p286 => (lx_abs fa.z_abs (lx_sub (lx_var 6 cp_it rfl) (fun p287 => (lx_dec (E' := eI) dcI (lx_ixD (lx_var 8 cp_it rfl) (fun p288 => lx_int)))))))) (fun p291 => (lx_var 1 cp_it rfl))) (nomark _)) (fun p292 => (lb_ret (lx_tup (la_cons lx_str (fun p293 => (la_cons (lx_var 4 cp_it rfl) (fun p294 => (la_cons (lx_var 7 cp_it rfl) (fun p295 => la_nil)))))) eD (fun a : Str × (Int × Int) × (Int × Int) × Unit => PyData.tuple [eS.enc a.1, (eT2 eI eI).enc a.2.1, (eT2 eI eI).enc a.2.2.1]) (fun a => [eS.enc a.1, (eT2 eI eI).enc a.2.1, (eT2 eI eI).enc a.2.2.1]) (fun _ => (.cons (.cons (.cons .nil)))) (fun _ => rfl)) (fun _ => ()) (fun p => (.drop (.drop (.drop (.drop (.drop (.drop (.drop (.drop (.drop (.keep Sub.nil))))))))))))) (fun p292 => (lb_end () (.keep (.keep (.keep (.keep (.keep (.keep (.keep (.keep (.drop (.keep Sub.nil)))))))))))))))) (fun p274 => (lb_end () (Sub.refl _))) (fun j275 => (lb_end () (.keep (.keep (.keep (.keep (.keep (.keep (.keep (.drop (.keep (.keep Sub.nil)))))))))))))) (fun t297 => (lb_set 9 nd (lx_call (ok_cells_in fa) (hr.mono (by decide)) fa.g_cells_in fa.F_cells_in.kp fa.b_cells_in (fun _ => (.cons cp_it .nil)) (la_cons (lx_var 0 cp_it rfl) (fun p298 => la_nil))) (fun v_cells_300 p301 => (lb_ifr (lt_cut (lt_w (lw_or (lt_cmp (lc_notInT hu5 dv_it dv_it (dtT2 dtI dtI) (evT2 evI evI) (lo_of (lx_part part2_0 (lx_var 3 cp_it rfl))) (fun p302 => (lo_of (lx_var 9 cp_it rfl))) (fun _ _ => trivial) (fun _ _ => trivial)) (by rfl)) (fun p303 => (lw_or1 (lt_cmp (lc_neI (lx_sub (lx_dec (E' := eI) dcI (lx_ixD (lx_call (ok_at fa) (hr.mono (by decide)) fa.g_at fa.F_at.kp fa.b_at (fun _ => (.cons cp_it (.cons cp_it .nil))) (la_cons (lx_as (E' := (eL (eL eD))) (lx_var 0 cp_it rfl) (List.map (List.map (eT2 eI eI).enc)) (fun _ => eLLD)) (fun p304 => (la_cons (lx_part part2_0 (lx_var 3 cp_it rfl)) (fun p305 => la_nil))))) (fun p307 => lx_int))) (fun p310 => (lx_mul (lx_var 1 cp_it rfl) (fun p311 => (lx_call (ok_steps fa) (hr.mono (by decide)) fa.g_steps fa.F_steps.kp fa.b_steps (fun _ => (.cons cp_it (.cons cp_it .nil))) (la_cons (lx_var 4 cp_it rfl) (fun p312 => (la_cons (lx_part part2_0 (lx_var 3 cp_it rfl)) (fun p313 => la_nil))))))))) (fun p315 => (lx_var 5 cp_it rfl))) (nomark _)))) (fun p303 _ => Sub.refl _))) (fun _ => rfl)) (fun p317 => (lb_ret (lx_tup (la_cons lx_str (fun p318 => (la_cons (lx_var 4 cp_it rfl) (fun p319 => la_nil)))) eD (fun a : Str × (Int × Int) × Unit => PyData.tuple [eS.enc a.1, (eT2 eI eI).enc a.2.1]) (fun a => [eS.enc a.1, (eT2 eI eI).enc a.2.1]) (fun _ => (.cons (.cons .nil))) (fun _ => rfl)) (fun _ => ()) (fun p => (.drop (.drop (.drop (.drop (.drop (.drop (.drop (.keep (.keep (.drop Sub.nil))))))))))))) (fun p317 => (lb_ifr (lt_cut (lt_w (lw_or (lt_cmp (lc_notInT hu5 dv_it dv_it (dtT2 dtI dtI) (evT2 evI evI) (lo_of (lx_part part2_1 (lx_var 3 cp_it rfl))) (fun p320 => (lo_of (lx_var 9 cp_it rfl))) (fun _ _ => trivial) (fun _ _ => trivial)) (by rfl)) (fun p321 => (lw_or1 (lt_cmp (lc_neI (lx_add (lx_dec (E' := eI) dcI (lx_ixD (lx_call (ok_at fa) (hr.mono (by decide)) fa.g_at fa.F_at.kp fa.b_at (fun _ => (.cons cp_it (.cons cp_it .nil))) (la_cons (lx_as (E' := (eL (eL eD))) (lx_var 0 cp_it rfl) (List.map (List.map (eT2 eI eI).enc)) (fun _ => eLLD)) (fun p327 => (la_cons (lx_part part2_1 (lx_var 3 cp_it rfl)) (fun p328 => la_nil))))) (fun p330 => lx_int))) (fun p332 => (lx_mul (lx_var 1 cp_it rfl) (fun p333 => (lx_call (ok_steps fa) (hr.mono (by decide)) fa.g_steps fa.F_steps.kp fa.b_steps (fun _ => (.cons cp_it (.cons cp_it .nil))) (la_cons (lx_var 4 cp_it rfl) (fun p334 => (la_cons (lx_part part2_1 (lx_var 3 cp_it rfl)) (fun p335 => la_nil))))))))) (fun p338 => (lx_var 6 cp_it rfl))) (nomark _)))) (fun p321 _ => Sub.refl _))) (fun _ => rfl)) (fun p340 => (lb_ret (lx_tup (la_cons lx_str (fun p341 => (la_cons (lx_var 4 cp_it rfl) (fun p342 => la_nil)))) eD (fun a : Str × (Int × Int) × Unit => PyData.tuple [eS.enc a.1, (eT2 eI eI).enc a.2.1]) (fun a => [eS.enc a.1, (eT2 eI eI).enc a.2.1]) (fun _ => (.cons (.cons .nil))) (fun _ => rfl)) (fun _ => ()) (fun p => (.drop (.drop (.drop (.drop (.drop (.drop (.drop (.keep (.keep (.drop Sub.nil))))))))))))) (fun p340 => (lb_ret (lx_as (E' := eD) lx_non eN.enc (fun _ => rfl)) (fun _ => ()) (fun p => (.drop (.drop (.drop (.drop (.drop (.drop (.drop (.keep (.keep (.drop Sub.nil))))))))))))))))))))))))))
    (by first | (unfold m_cell_fault; dsimp only [id]; done) | (unfold m_cell_fault; dsimp only [id]; rfl) | rfl)
abbrev n_tighten_fault : List Str := ["bounds", "slope", "told", "cells", "word", "one", "other", "crossed", "table", "holds", "rows", "row", "cell", "fault"]
theorem sc_tighten_fault : FnScope n_tighten_fault ["bounds", "slope", "told"] (defScope s_tighten_fault) := ⟨rfl, rfl, rfl, by decide +kernel, rfl, by decide +kernel, by decide +kernel⟩
abbrev sp_tighten_fault (K : Fg) : Sp := spP K (fun a : (List (List (Int × Int))) × Int × PyData × Unit => [.st none (List (List (Int × Int))) (it (eL (eL (eT2 eI eI)))) a.1, .st none Int (it eI) a.2.1, .st none PyData (it eD) a.2.2.1]) (it eD) (fun a => m_tighten_fault a.1 a.2.1 a.2.2.1)
set_option maxHeartbeats 0 in
theorem ok_tighten_fault (fa : Fa K mg) : FnOk P w K mg base CX0 3 fa.f_tighten_fault fa.fd_tighten_fault ["bounds", "slope", "told"] (sp_tighten_fault K) := by
  refine fnP fa.F_tighten_fault sc_tighten_fault 11 rfl (fun _ => rfl) fun cdv A' outer s H E hr => ?_
  have nd := sc_tighten_fault.nd
  have hu := hr.units
  have hu5 : (A'.deeper (envOfC "tighten_fault" (defScope s_tighten_fault) s.heap.objs.size fa.f_tighten_fault cdv)).units + 65 < cLine := by have := hr.un; omega
  rintro ⟨a_bounds, a_slope, a_told, _⟩
  exact lb_use (env := [.st none (List (List (Int × Int))) (it (eL (eL (eT2 eI eI)))) a_bounds, .st none Int (it eI) a_slope, .st none PyData (it eD) a_told, .un, .un, .un, .un, .un, .un, .un, .un, .un, .un, .un])
    (lb_set 3 nd (lx_call (ok_cells_in fa) (hr.mono (by decide)) fa.g_cells_in fa.F_cells_in.kp fa.b_cells_in (fun _ => (.cons cp_it .nil)) (la_cons (lx_var 0 cp_it rfl) (fun p347 => la_nil))) (fun v_cells_349 p350 => (lb_ifr (lt_cmp (lc_eqS (lx_dec (E' := eS) dcS (lx_ixD (lx_var 2 cp_it rfl) (fun p354 => lx_int))) (fun p353 => lx_str)) (nomark _)) (fun p357 => (lb_asg (lx_dec (E' := (eT3 eS (eT2 eI eI) (eT2 eI eI))) (dcT3 dcS (dcT2 dcI dcI) (dcT2 dcI dcI)) (lx_var 2 cp_it rfl)) (fun p360 => (lg_tup (E := (eT3 eS (eT2 eI eI) (eT2 eI eI))) (lgs_cons (lg_name 4 nd) (fun _ => (lgs_cons (lg_name 5 nd) (fun _ => (lgs_cons (lg_name 6 nd) (fun _ => lgs_nil)))))) (fun x => (x.1, x.2.1, x.2.2, ())) (fun a : Str × (Int × Int) × (Int × Int) × Unit => [eS.enc (a.1), (eT2 eI eI).enc (a.2.1), (eT2 eI eI).enc (a.2.2.1)]) (fun _ => (.cons (.cons (.cons .nil)))) (fun _ => rfl) rfl (fun _ => rfl))) (fun x359 p360 => (lb_ifr (lt_cut (lt_w (lw_or (lt_cmp (lc_notInT hu5 dv_it dv_it (dtT2 dtI dtI) (evT2 evI evI) (lo_of (lx_var 5 cp_it rfl)) (fun p361 => (lo_of (lx_var 3 cp_it rfl))) (fun _ _ => trivial) (fun _ _ => trivial)) (by rfl)) (fun p362 => (lw_or1 (lt_cmp (lc_notInT hu5 dv_it dv_it (dtT2 dtI dtI) (evT2 evI evI) (lo_of (lx_var 6 cp_it rfl)) (fun p363 => (lo_of (lx_var 3 cp_it rfl))) (fun _ _ => trivial) (fun _ _ => trivial)) (by rfl)))) (fun p362 _ => Sub.refl _))) (fun _ => rfl)) (fun p365 => (lb_ret (lx_tup (la_cons lx_str (fun p366 => la_nil)) eD (fun a : Str × Unit => PyData.tuple [eS.enc a.1]) (fun a => [eS.enc a.1]) (fun _ => (.cons .nil)) (fun _ => rfl)) (fun _ => ()) (fun p => (.drop (.drop (.drop (.drop (.drop (.drop (.drop (.keep (.keep (.keep (.keep (.keep (.keep (.keep Sub.nil))))))))))))))))) (fun p365 => (lb_set 7 nd (lx_cmp (lc_gt (lx_sub (lx_dec (E' := eI) dcI (lx_ixD (lx_call (ok_at fa) (hr.mono (by decide)) fa.g_at fa.F_at.kp fa.b_at (fun _ => (.cons cp_it (.cons cp_it .nil))) (la_cons (lx_as (E' := (eL (eL eD))) (lx_var 0 cp_it rfl) (List.map (List.map (eT2 eI eI).enc)) (fun _ => eLLD)) (fun p367 => (la_cons (lx_var 5 cp_it rfl) (fun p368 => la_nil))))) (fun p370 => lx_int))) (fun p373 => (lx_mul (lx_var 1 cp_it rfl) (fun p374 => (lx_call (ok_steps fa) (hr.mono (by decide)) fa.g_steps fa.F_steps.kp fa.b_steps (fun _ => (.cons cp_it (.cons cp_it .nil))) (la_cons (lx_var 5 cp_it rfl) (fun p375 => (la_cons (lx_var 6 cp_it rfl) (fun p376 => la_nil))))))))) (fun p378 => (lx_dec (E' := eI) dcI (lx_ixD (lx_call (ok_at fa) (hr.mono (by decide)) fa.g_at fa.F_at.kp fa.b_at (fun _ => (.cons cp_it (.cons cp_it .nil))) (la_cons (lx_as (E' := (eL (eL eD))) (lx_var 0 cp_it rfl) (List.map (List.map (eT2 eI eI).enc)) (fun _ => eLLD)) (fun p384 => (la_cons (lx_var 6 cp_it rfl) (fun p385 => la_nil))))) (fun p387 => lx_int))))) (nomark _)) (fun v_crossed_390 p391 => (lb_ret (lx_cut (lx_if (S := (it eD)) (lt_val (lx_var 7 cp_it rfl)) (fun p392 => (lx_as (E' := eD) lx_non eN.enc (fun _ => rfl))) (fun p392 => (lx_tup (la_cons lx_str (fun p393 => la_nil)) eD (fun a : Str × Unit => PyData.tuple [eS.enc a.1]) (fun a => [eS.enc a.1]) (fun _ => (.cons .nil)) (fun _ => rfl))) (fun p392 _ => Sub.refl _) (fun p392 _ => Sub.refl _)) (fun _ => rfl)) (fun _ => ()) (fun p => (.drop (.drop (.drop (.drop (.drop (.drop (.drop (.drop (.keep (.keep (.keep (.keep (.keep (.keep Sub.nil))))))))))))))))))))))) (fun p357 => (lb_asg (lx_dec (E' := (eT3 eS (eL (eL (eT2 eI eI))) (eL (eL (eT2 (eT2 eI eI) (eT2 eI eI)))))) (dcT3 dcS (dcL (dcL (dcT2 dcI dcI))) (dcL (dcL (dcT2 (dcT2 dcI dcI) (dcT2 dcI dcI))))) (lx_var 2 cp_it rfl)) (fun p400 => (lg_tup (E := (eT3 eS (eL (eL (eT2 eI eI))) (eL (eL (eT2 (eT2 eI eI) (eT2 eI eI)))))) (lgs_cons (lg_name 4 nd) (fun _ => (lgs_cons (lg_name 8 nd) (fun _ => (lgs_cons (lg_name 9 nd) (fun _ => lgs_nil)))))) (fun x => (x.1, x.2.1, x.2.2, ())) (fun a : Str × (List (List (Int × Int))) × (List (List ((Int × Int) × (Int × Int)))) × Unit => [eS.enc (a.1), (eL (eL (eT2 eI eI))).enc (a.2.1), (eL (eL (eT2 (eT2 eI eI) (eT2 eI eI)))).enc (a.2.2.1)]) (fun _ => (.cons (.cons (.cons .nil)))) (fun _ => rfl) rfl (fun _ => rfl))) (fun x399 p400 => (lb_for (envT := (fun t404 : Unit => [.st none (List (List (Int × Int))) (it (eL (eL (eT2 eI eI)))) a_bounds, .st none Int (it eI) a_slope, .st none PyData (it eD) a_told, .st none (List (Int × Int)) (it (eL (eT2 eI eI))) v_cells_349, .st none Str (it eS) x399.1, .un, .un, .un, .st none (List (List (Int × Int))) (it (eL (eL (eT2 eI eI)))) x399.2.1, .st none (List (List ((Int × Int) × (Int × Int)))) (it (eL (eL (eT2 (eT2 eI eI) (eT2 eI eI))))) x399.2.2, .un, .un, .un, .un])) PassesOwn.never rfl (li_tup tv_sh (lx_tup (la_cons (lx_as (E' := (eL (eL eD))) (lx_var 8 cp_it rfl) (List.map (List.map (eT2 eI eI).enc)) (fun _ => eLLD)) (fun p401 => (la_cons (lx_as (E' := (eL (eL eD))) (lx_var 9 cp_it rfl) (List.map (List.map (eT2 (eT2 eI eI) (eT2 eI eI)).enc)) (fun _ => eLLD)) (fun p402 => la_nil)))) (eV (eL (eL eD))) (fun a : (List (List PyData)) × (List (List PyData)) × Unit => [a.1, a.2.1]) (fun a => [(eL (eL eD)).enc a.1, (eL (eL eD)).enc a.2.1]) (fun _ => (.cons (.cons .nil))) (fun _ => rfl))) (fun p403 => ()) (fun p403 => (Sub.refl _)) (fun t404 => (lg_name 10 nd)) (fun x405 t404 kc406 kb407 => (lb_ifr (lt_cut (lt_w (lw_or (lt_cmp (lc_neI (lx_len lm_sh.w fa.z_len (lo_of (lx_var 10 cp_it rfl)) (fun _ => trivial)) (fun p408 => (lx_len lm_sh.w fa.z_len (lo_of (lx_var 0 cp_it rfl)) (fun _ => trivial)))) (nomark _)) (fun p409 => (lw_or1 (lt_not (lt_val (lx_all rfl lm_ow.w fa.z_all (lo_of (lx_lc (envT := (fun t411 : Unit => [.st none (List (List (Int × Int))) (it (eL (eL (eT2 eI eI)))) a_bounds, .st none Int (it eI) a_slope, .st none PyData (it eD) a_told, .st none (List (Int × Int)) (it (eL (eT2 eI eI))) v_cells_349, .st none Str (it eS) x399.1, .un, .un, .un, .st none (List (List (Int × Int))) (it (eL (eL (eT2 eI eI)))) x399.2.1, .st none (List (List ((Int × Int) × (Int × Int)))) (it (eL (eL (eT2 (eT2 eI eI) (eT2 eI eI))))) x399.2.2, .st none (List (List PyData)) (it (eL (eL eD))) x405, .un, .un, .un])) rfl nd (blkOk_by (N := n_tighten_fault) (sc := defScope s_tighten_fault) (own := [("row", 11)]) (by decide +kernel)) (li_list lm_sh.w (lx_var 10 cp_it rfl)) (fun p410 => ()) (fun p410 => (Sub.refl _)) (by intro t i s hm he; simp at hm; subst hm; (have e := Option.some.inj he; exact e.symm)) (fun _ _ _ _ _ t411 => (lg_name 11 nd)) (fun _ _ _ _ _ t411 x412 => ltl_nil) (fun _ _ _ _ _ t411 x412 p413 => (lx_cmp (lc_eqI (lx_len lm_sh.w fa.z_len (lo_of (lx_var 11 cp_it rfl)) (fun _ => trivial)) (fun p414 => (lx_len lm_sh.w fa.z_len (lo_of (lx_ix lm_sh.w (lo_of (lx_var 0 cp_it rfl)) (fun p415 => lx_int) (fun _ _ => trivial))) (fun _ => trivial)))) (nomark _))) (fun t411 x412 p413 p417 => ()) (fun t411 x412 p413 p417 => by exact (.keep (.keep (.keep (.keep (.keep (.keep (.keep (.keep (.keep (.keep (.keep (.drop (.keep (.keep Sub.nil))))))))))))))) (fun t411 x412 p413 => ()) (fun t411 x412 p413 => by exact (.keep (.keep (.keep (.keep (.keep (.keep (.keep (.keep (.keep (.keep (.keep (.drop (.keep (.keep Sub.nil))))))))))))))))) (fun _ => trivial)))))) (fun p409 _ => Sub.refl _))) (fun _ => rfl)) (fun p422 => (lb_ret (lx_tup (la_cons lx_str (fun p423 => la_nil)) eD (fun a : Str × Unit => PyData.tuple [eS.enc a.1]) (fun a => [eS.enc a.1]) (fun _ => (.cons .nil)) (fun _ => rfl)) (fun _ => ()) (fun p => (.drop (.drop (.drop (.drop (.drop (.keep (.keep (.keep (.drop (.drop (.drop (.keep (.keep (.keep Sub.nil))))))))))))))))) (fun p422 => (lb_end () (.keep (.keep (.keep (.keep (.keep (.keep (.keep (.keep (.keep (.keep (.drop (.keep (.keep (.keep Sub.nil)))))))))))))))))) (fun t425 => (lb_for (envT := (fun t427 : Unit => [.st none (List (List (Int × Int))) (it (eL (eL (eT2 eI eI)))) a_bounds, .st none Int (it eI) a_slope, .st none PyData (it eD) a_told, .st none (List (Int × Int)) (it (eL (eT2 eI eI))) v_cells_349, .st none Str (it eS) x399.1, .un, .un, .un, .st none (List (List (Int × Int))) (it (eL (eL (eT2 eI eI)))) x399.2.1, .st none (List (List ((Int × Int) × (Int × Int)))) (it (eL (eL (eT2 (eT2 eI eI) (eT2 eI eI))))) x399.2.2, .un, .un, .un, .un])) PassesOwn.never rfl (li_list lm_sh.w (lx_var 3 cp_it rfl)) (fun p426 => ()) (fun p426 => (Sub.refl _)) (fun t427 => (lg_name 12 nd)) (fun x428 t427 kc429 kb430 => (lb_set 13 nd (lx_call (ok_cell_fault fa) (hr.mono (by decide)) fa.g_cell_fault fa.F_cell_fault.kp fa.b_cell_fault (fun _ => (.cons cp_it (.cons cp_it (.cons cp_it (.cons cp_it (.cons cp_it .nil)))))) (la_cons (lx_var 0 cp_it rfl) (fun p431 => (la_cons (lx_var 1 cp_it rfl) (fun p432 => (la_cons (lx_var 8 cp_it rfl) (fun p433 => (la_cons (lx_dec (E' := (eT2 (eT2 eI eI) (eT2 eI eI))) (dcT2 (dcT2 dcI dcI) (dcT2 dcI dcI)) (lx_call (ok_at fa) (hr.mono (by decide)) fa.g_at fa.F_at.kp fa.b_at (fun _ => (.cons cp_it (.cons cp_it .nil))) (la_cons (lx_as (E' := (eL (eL eD))) (lx_var 9 cp_it rfl) (List.map (List.map (eT2 (eT2 eI eI) (eT2 eI eI)).enc)) (fun _ => eLLD)) (fun p434 => (la_cons (lx_var 12 cp_it rfl) (fun p435 => la_nil)))))) (fun p438 => (la_cons (lx_var 12 cp_it rfl) (fun p439 => la_nil))))))))))) (fun v_fault_441 p442 => (lb_ifr (lt_cmp (lc_notN (lx_var 13 cp_it rfl)) (nomark _)) (fun p443 => (lb_ret (lx_var 13 cp_it rfl) (fun _ => ()) (fun p => (.drop (.drop (.drop (.drop (.drop (.keep (.keep (.keep (.drop (.drop (.keep (.keep (.drop (.drop Sub.nil))))))))))))))))) (fun p443 => (lb_end () (.keep (.keep (.keep (.keep (.keep (.keep (.keep (.keep (.keep (.keep (.keep (.keep (.drop (.drop Sub.nil)))))))))))))))))))) (fun t444 => (lb_ret (lx_as (E' := eD) lx_non eN.enc (fun _ => rfl)) (fun _ => ()) (fun p => (.drop (.drop (.drop (.drop (.drop (.keep (.keep (.keep (.drop (.drop (.keep (.keep (.keep (.keep Sub.nil))))))))))))))))))))))))))
    (by first | (unfold m_tighten_fault; dsimp only [id]; done) | (unfold m_tighten_fault; dsimp only [id]; rfl) | rfl)
abbrev n__law_state : List Str := ["script", "cells", "cell"]
theorem sc__law_state : FnScope n__law_state ["script"] (defScope s__law_state) := ⟨rfl, rfl, rfl, by decide +kernel, rfl, by decide +kernel, by decide +kernel⟩
abbrev sp__law_state (K : Fg) : Sp := spP K (fun a : List Int × Unit => [.st none (List Int) scr a.1]) stT (fun a => m__law_state a.1)
set_option maxHeartbeats 0 in
theorem ok__law_state (fa : Fa K mg) : FnOk P w K mg base CX0 1 fa.f__law_state fa.fd__law_state ["script"] (sp__law_state K) := by
  refine fnP fa.F__law_state sc__law_state 2 rfl (fun _ => rfl) fun cdv A' outer s H E hr => ?_
  have nd := sc__law_state.nd
  have hu := hr.units
  have hu5 : (A'.deeper (envOfC "_law_state" (defScope s__law_state) s.heap.objs.size fa.f__law_state cdv)).units + 65 < cLine := by have := hr.un; omega
  rintro ⟨a_script, _⟩
  exact lb_use (env := [.st none (List Int) scr a_script, .un, .un])
    (lb_setLc (envT := (fun t449 : Unit => [.st none (List Int) scr a_script, .un, .un])) rfl nd (blkOk_by (N := n__law_state) (sc := defScope s__law_state) (own := [("cell", 2)]) (by decide +kernel)) 1 (li_list lm_ow.w (lx_slR lv_scr (lx_var 0 cp_scr rfl) (fun p447 => lx_int))) (fun p448 => ()) (fun p448 => (Sub.refl _)) (by intro t i s hm he; simp at hm; subst hm; (have e := Option.some.inj he; exact e.symm)) (fun _ _ _ _ _ t449 => (lg_name 2 nd)) (fun _ _ _ _ _ t449 x450 => ltl_nil) (fun _ _ _ _ _ t449 x450 p451 => (lx_abs fa.z_abs (lx_var 2 cp_it rfl))) (fun t449 x450 p451 p452 => ()) (fun t449 x450 p451 p452 => by exact (.keep (.keep (.drop Sub.nil)))) (fun t449 x450 p451 => ()) (fun t449 x450 p451 => by exact (.keep (.keep (.drop Sub.nil)))) (fun v_cells_456 p457 => (lb_if (env1 := (fun j460 : (List Int) => [.st none (List Int) scr a_script, .st none (List Int) (ls (it eI)) j460, .un])) (lt_cmp (lc_eqI (lx_len lm_ow.w fa.z_len (lo_var 1 rfl) (fun _ => rfl)) (fun p458 => lx_int)) (nomark _)) (fun p459 => (lb_set 1 nd (lx_list (la_cons lx_int (fun p462 => la_nil)) eI (fun a : Int × Unit => [a.1]) (fun _ => (.cons .nil))) (fun v_cells_463 p464 => (lb_end v_cells_463 (Sub.refl _))))) (fun p459 => (lb_end v_cells_456 (Sub.refl _))) (fun j460 => (lb_ret (lx_st lx_int (fun p465 => (lx_move 1 rfl))) (fun _ => ()) (fun p => (.drop (.keep (.keep Sub.nil)))))))) (sw_true rfl rfl rfl (by decide +kernel)))
    (by first | (unfold m__law_state; dsimp only [id]; done) | (unfold m__law_state; dsimp only [id]; rfl) | rfl)
abbrev n__law_take : List Str := ["state", "most", "cells", "at_v", "cell", "mixed"]
theorem sc__law_take : FnScope n__law_take ["state", "most"] (defScope s__law_take) := ⟨rfl, rfl, rfl, by decide +kernel, rfl, by decide +kernel, by decide +kernel⟩
abbrev sp__law_take (K : Fg) : Sp := spI K stT (fun a : Int × Unit => [.st none Int (it eI) a.1]) (it eI) (fun t0 a => m__law_take t0 a.1)
set_option maxHeartbeats 0 in
theorem ok__law_take (fa : Fa K mg) : FnOk P w K mg base CX0 1 fa.f__law_take fa.fd__law_take ["state", "most"] (sp__law_take K) := by
  refine fnI fa.F__law_take sc__law_take 4 rfl (fun _ => rfl) fun cdv A' outer s H E hr => ?_
  have nd := sc__law_take.nd
  have hu := hr.units
  have hu5 : (A'.deeper (envOfC "_law_take" (defScope s__law_take) s.heap.objs.size fa.f__law_take cdv)).units + 65 < cLine := by have := hr.un; omega
  rintro v0 t0 ⟨a_most, _⟩
  exact lb_use (env := [.st (some v0) TSt stT t0, .st none Int (it eI) a_most, .un, .un, .un, .un])
    (lb_alias 0 2 nd rfl rfl (fun q => (lb_set 3 nd (lx_mod (lx_st0 0 rfl) (fun p466 => (lx_len lm_ow.w fa.z_len (lo_var 2 rfl) (fun _ => rfl)))) (fun v_at_v_467 p468 => (lb_set 4 nd (lx_ix lm_ow.w (lo_var 2 rfl) (fun p469 => (lx_var 3 cp_it rfl)) (fun _ _ => rfl)) (fun v_cell_471 p472 => (lb_ifr (lt_cmp (lc_ge (lx_var 4 cp_it rfl) (fun p473 => lx_int)) (nomark _)) (fun p474 => (lb_setix 2 (lx_fdiv (lx_var 4 cp_it rfl) (fun p475 => (lx_var 1 cp_it rfl))) (fun _ => rfl) (fun y476 p477 => (lx_var 3 cp_it rfl)) (fun _ _ _ => rfl) (fun y476 p477 j478 p479 z480 => (lb_join 0 2 rfl rfl (lb_ret (lx_mod (lx_var 4 cp_it rfl) (fun p481 => (lx_var 1 cp_it rfl))) (fun p => (t0.1, z480)) (fun p => (.keep (.drop (.keep (.drop (.drop (.keep Sub.nil)))))))))))) (fun p474 => (lb_st0 0 (lx_add (lx_st0 0 rfl) (fun p483 => lx_int)) (fun _ => rfl) (fun y484 p485 => (lb_set 5 nd (lx_mod (lx_int1 fa.z_int (lx_add (lx_mul (lx_var 4 cp_it rfl) (fun p488 => lx_int)) (fun p489 => (lx_mul (lx_st0 0 rfl) (fun p490 => lx_int))))) (fun p491 => lx_int)) (fun v_mixed_492 p493 => (lb_set 5 nd (lx_mod (lx_int1 fa.z_int (lx_add (lx_mul (lx_var 5 cp_it rfl) (fun p495 => lx_int)) (fun p496 => (lx_mul (lx_st0 0 rfl) (fun p497 => lx_int))))) (fun p498 => lx_int)) (fun v_mixed_499 p500 => (lb_join 0 2 rfl rfl (lb_ret (lx_mod (lx_fdiv (lx_var 5 cp_it rfl) (fun p501 => lx_int)) (fun p502 => (lx_var 1 cp_it rfl))) (fun p => (y484, t0.2)) (fun p => (.keep (.drop (.keep (.drop (.drop (.drop Sub.nil)))))))))))))))))))))))
    (by first | (unfold m__law_take; dsimp only [id]; done) | (unfold m__law_take; dsimp only [id]; rfl) | rfl)
abbrev n__law_table : List Str := ["state", "wide", "high", "slope", "bounds", "base", "y", "row", "x", "low"]
theorem sc__law_table : FnScope n__law_table ["state"] (defScope s__law_table) := ⟨rfl, rfl, rfl, by decide +kernel, rfl, by decide +kernel, by decide +kernel⟩
abbrev sp__law_table (K : Fg) : Sp := spI K stT (fun a : Unit => []) (it (eT2 (eL (eL (eT2 eI eI))) eI)) (fun t0 a => m__law_table t0 )
set_option maxHeartbeats 0 in
theorem ok__law_table (fa : Fa K mg) : FnOk P w K mg base CX0 2 fa.f__law_table fa.fd__law_table ["state"] (sp__law_table K) := by
  refine fnI fa.F__law_table sc__law_table 9 rfl (fun _ => rfl) fun cdv A' outer s H E hr => ?_
  have nd := sc__law_table.nd
  have hu := hr.units
  have hu5 : (A'.deeper (envOfC "_law_table" (defScope s__law_table) s.heap.objs.size fa.f__law_table cdv)).units + 65 < cLine := by have := hr.un; omega
  rintro v0 t0 _
  exact lb_use (env := [.st (some v0) TSt stT t0, .un, .un, .un, .un, .un, .un, .un, .un, .un])
    (lb_parS 1 2 nd rfl (la_cons (lx_add lx_int (fun p503 => (lx_callI 0 (ok__law_take fa) (hr.mono (by decide)) fa.g__law_take fa.F__law_take.kp fa.b__law_take (fun _ => (.cons cp_it .nil)) rfl (la_cons lx_int (fun p504 => la_nil)) (fun _ => rfl)))) (fun p506 => (la_cons (lx_add lx_int (fun p507 => (lx_callI 0 (ok__law_take fa) (hr.mono (by decide)) fa.g__law_take fa.F__law_take.kp fa.b__law_take (fun _ => (.cons cp_it .nil)) rfl (la_cons lx_int (fun p508 => la_nil)) (fun _ => rfl)))) (fun p510 => la_nil)))) (fun _ => rfl) (fun x512 y513 p511 => (lb_set 3 nd (lx_callI 0 (ok__law_take fa) (hr.mono (by decide)) fa.g__law_take fa.F__law_take.kp fa.b__law_take (fun _ => (.cons cp_it .nil)) rfl (la_cons lx_int (fun p514 => la_nil)) (fun _ => rfl)) (fun v_slope_516 p517 => (lb_set 4 nd (lx_list la_nil (eL (eT2 eI eI)) (fun _ => []) (fun _ => .nil)) (fun v_bounds_518 p519 => (lb_set 5 nd (lx_add lx_int (fun p520 => (lx_callI 0 (ok__law_take fa) (hr.mono (by decide)) fa.g__law_take fa.F__law_take.kp fa.b__law_take (fun _ => (.cons cp_it .nil)) rfl (la_cons lx_int (fun p521 => la_nil)) (fun _ => rfl)))) (fun v_base_523 p524 => (lb_for (envT := (fun t526 : (TSt × (List (List (Int × Int)))) => [.st (some v0) TSt stT t526.1, .st none Int (it eI) x512, .st none Int (it eI) y513, .st none Int (it eI) v_slope_516, .st none (List (List (Int × Int))) (ls (it (eL (eT2 eI eI)))) t526.2, .st none Int (it eI) v_base_523, .un, .un, .un, .un])) PassesOwn.never rfl (li_range1 (by rfl) fa.z_range (lx_var 2 cp_it rfl)) (fun p525 => (p524.2.2, v_bounds_518)) (fun p525 => (Sub.refl _)) (fun t526 => (lg_name 6 nd)) (fun x527 t526 kc528 kb529 => (lb_set 7 nd (lx_list la_nil (eT2 eI eI) (fun _ => []) (fun _ => .nil)) (fun v_row_530 p531 => (lb_for (envT := (fun t533 : (TSt × (List (Int × Int))) => [.st (some v0) TSt stT t533.1, .st none Int (it eI) x512, .st none Int (it eI) y513, .st none Int (it eI) v_slope_516, .st none (List (List (Int × Int))) (ls (it (eL (eT2 eI eI)))) t526.2, .st none Int (it eI) v_base_523, .st none Int (it eI) x527, .st none (List (Int × Int)) (ls (it (eT2 eI eI))) t533.2, .un, .un])) PassesOwn.never rfl (li_range1 (by rfl) fa.z_range (lx_var 1 cp_it rfl)) (fun p532 => (t526.1, v_row_530)) (fun p532 => (Sub.refl _)) (fun t533 => (lg_name 8 nd)) (fun x534 t533 kc535 kb536 => (lb_set 9 nd (lx_ifJ (S := (it eI)) (fun j548 : TSt => [.st (some v0) TSt stT j548, .st none Int (it eI) x512, .st none Int (it eI) y513, .st none Int (it eI) v_slope_516, .st none (List (List (Int × Int))) (ls (it (eL (eT2 eI eI)))) t526.2, .st none Int (it eI) v_base_523, .st none Int (it eI) x527, .st none (List (Int × Int)) (ls (it (eT2 eI eI))) t533.2, .st none Int (it eI) x534, .un]) (lt_cmp (lc_gt (lx_callI 0 (ok__law_take fa) (hr.mono (by decide)) fa.g__law_take fa.F__law_take.kp fa.b__law_take (fun _ => (.cons cp_it .nil)) rfl (la_cons lx_int (fun p537 => la_nil)) (fun _ => rfl)) (fun p539 => lx_int)) (nomark _)) (fun p540 => (lx_max2 rfl fa.z_max lx_int (fun p541 => (lx_sub (lx_add (lx_var 5 cp_it rfl) (fun p542 => (lx_callI 0 (ok__law_take fa) (hr.mono (by decide)) fa.g__law_take fa.F__law_take.kp fa.b__law_take (fun _ => (.cons cp_it .nil)) rfl (la_cons lx_int (fun p543 => la_nil)) (fun _ => rfl)))) (fun p545 => lx_int))))) (fun p540 => (lx_callI 0 (ok__law_take fa) (hr.mono (by decide)) fa.g__law_take fa.F__law_take.kp fa.b__law_take (fun _ => (.cons cp_it .nil)) rfl (la_cons lx_int (fun p546 => la_nil)) (fun _ => rfl))) (fun p540 p549 => p549.2.1.2.2) (fun p540 p549 => p549.2) (fun p540 p549 => by exact (.keep (.keep (.keep (.keep (.keep (.keep (.keep (.keep (.keep (.keep Sub.nil))))))))))) (fun p540 p549 => by exact (.keep (.keep (.keep (.keep (.keep (.keep (.keep (.keep (.keep (.keep Sub.nil)))))))))))) (fun v_low_553 p554 => (lb_app 7 rfl (lx_tup (la_cons (lx_var 9 cp_it rfl) (fun p557 => (la_cons (lx_add (lx_var 9 cp_it rfl) (fun p558 => (lx_callI 0 (ok__law_take fa) (hr.mono (by decide)) fa.g__law_take fa.F__law_take.kp fa.b__law_take (fun _ => (.cons cp_it .nil)) rfl (la_cons (lx_ix lm_ow.w (lo_of (lx_list (la_cons lx_int (fun p559 => (la_cons lx_int (fun p560 => la_nil)))) eI (fun a : Int × Int × Unit => [a.1, a.2.1]) (fun _ => (.cons (.cons .nil))))) (fun p561 => (lx_callI 0 (ok__law_take fa) (hr.mono (by decide)) fa.g__law_take fa.F__law_take.kp fa.b__law_take (fun _ => (.cons cp_it .nil)) rfl (la_cons lx_int (fun p562 => la_nil)) (fun _ => rfl))) (fun _ _ => trivial)) (fun p565 => la_nil)) (fun _ => rfl)))) (fun p567 => la_nil)))) (eT2 eI eI) (fun a : Int × Int × Unit => (a.1, a.2.1)) (fun a => [eI.enc a.1, eI.enc a.2.1]) (fun _ => (.cons (.cons .nil))) (fun _ => rfl)) (fun _ => rfl) (fun y556 p555 => (lb_end (p555.2.1.2.2, (t533.2 ++ [y556])) (.keep (.keep (.keep (.keep (.keep (.keep (.keep (.keep (.drop (.drop Sub.nil)))))))))))))))) (fun t569 => (lb_app 4 rfl (lx_frz 7 (fz_ls fz_it) rfl) (fun _ => rfl) (fun y571 p570 => (lb_end (t569.1, (t526.2 ++ [y571])) (.keep (.keep (.keep (.keep (.keep (.keep (.drop (.drop (.keep (.keep Sub.nil)))))))))))))))))) (fun t574 => (lb_ret (lx_tup (la_cons (lx_frz 4 (fz_ls fz_it) rfl) (fun p575 => (la_cons (lx_var 3 cp_it rfl) (fun p576 => la_nil)))) (eT2 (eL (eL (eT2 eI eI))) eI) (fun a : (List (List (Int × Int))) × Int × Unit => (a.1, a.2.1)) (fun a => [(eL (eL (eT2 eI eI))).enc a.1, eI.enc a.2.1]) (fun _ => (.cons (.cons .nil))) (fun _ => rfl)) (fun p => t574.1) (fun p => (.keep (.drop (.drop (.drop (.drop (.drop (.keep (.keep (.keep (.keep Sub.nil))))))))))))))))))))))
    (by first | (unfold m__law_table; dsimp only [id]; done) | (unfold m__law_table; dsimp only [id]; rfl) | rfl)
abbrev n__law_cells : List Str := ["table", "found", "x", "y"]
theorem sc__law_cells : FnScope n__law_cells ["table"] (defScope s__law_cells) := ⟨rfl, rfl, rfl, by decide +kernel, rfl, by decide +kernel, by decide +kernel⟩
abbrev sp__law_cells (K : Fg) : Sp := spL K (ls (ls (it (eT2 eI eI)))) (fun a : Unit => []) (it (eL (eT2 eI eI))) (fun t0 a => m__law_cells t0 )
set_option maxHeartbeats 0 in
theorem ok__law_cells (fa : Fa K mg) : FnOk P w K mg base CX0 1 fa.f__law_cells fa.fd__law_cells ["table"] (sp__law_cells K) := by
  refine fnL fa.F__law_cells sc__law_cells 3 rfl (fun _ => rfl) fun cdv A' outer s H E hr => ?_
  have nd := sc__law_cells.nd
  have hu := hr.units
  have hu5 : (A'.deeper (envOfC "_law_cells" (defScope s__law_cells) s.heap.objs.size fa.f__law_cells cdv)).units + 65 < cLine := by have := hr.un; omega
  rintro a_table _
  exact lb_use (env := [.lk (List (List (Int × Int))) (ls (ls (it (eT2 eI eI)))) a_table, .un, .un, .un])
    (lb_set 1 nd (lx_list la_nil (eT2 eI eI) (fun _ => []) (fun _ => .nil)) (fun v_found_578 p579 => (lb_for (envT := (fun t582 : (List (Int × Int)) => [.lk (List (List (Int × Int))) (ls (ls (it (eT2 eI eI)))) a_table, .st none (List (Int × Int)) (ls (it (eT2 eI eI))) t582, .un, .un])) PassesOwn.never rfl (li_range1 (by rfl) fa.z_range (lx_len lm_ow.w fa.z_len (lo_ixK 0 rfl lx_int (fun _ => rfl)) (fun _ => rfl))) (fun p581 => v_found_578) (fun p581 => (Sub.refl _)) (fun t582 => (lg_name 2 nd)) (fun x583 t582 kc584 kb585 => (lb_ext 1 rfl lm_ow (lx_lc (envT := (fun t589 : Unit => [.lk (List (List (Int × Int))) (ls (ls (it (eT2 eI eI)))) a_table, .st none (List (Int × Int)) (ls (it (eT2 eI eI))) t582, .st none Int (it eI) x583, .un])) rfl nd (blkOk_by (N := n__law_cells) (sc := defScope s__law_cells) (own := [("y", 3)]) (by decide +kernel)) (li_range1 (by rfl) fa.z_range (lx_lenO lm_ow.w fa.z_len (lo_lk 0 rfl) (fun _ => rfl))) (fun p588 => ()) (fun p588 => (Sub.refl _)) (by intro t i s hm he; simp at hm; subst hm; (have e := Option.some.inj he; exact e.symm)) (fun _ _ _ _ _ t589 => (lg_name 3 nd)) (fun _ _ _ _ _ t589 x590 => ltl_nil) (fun _ _ _ _ _ t589 x590 p591 => (lx_tup (la_cons (lx_var 2 cp_it rfl) (fun p592 => (la_cons (lx_var 3 cp_it rfl) (fun p593 => la_nil)))) (eT2 eI eI) (fun a : Int × Int × Unit => (a.1, a.2.1)) (fun a => [eI.enc a.1, eI.enc a.2.1]) (fun _ => (.cons (.cons .nil))) (fun _ => rfl))) (fun t589 x590 p591 p594 => ()) (fun t589 x590 p591 p594 => by exact (.keep (.keep (.keep (.drop Sub.nil))))) (fun t589 x590 p591 => ()) (fun t589 x590 p591 => by exact (.keep (.keep (.keep (.drop Sub.nil)))))) (fun _ => rfl) (fun y587 p586 => (lb_end (t582 ++ y587) (.keep (.keep (.drop (.keep Sub.nil)))))))) (fun t600 => (lb_ret (lx_frz 1 (fz_ls fz_it) rfl) (fun _ => ()) (fun p => (.drop (.drop (.keep (.keep Sub.nil))))))))))
    (by first | (unfold m__law_cells; dsimp only [id]; done) | (unfold m__law_cells; dsimp only [id]; rfl) | rfl)
abbrev n__law_steps : List Str := ["one", "other"]
theorem sc__law_steps : FnScope n__law_steps ["one", "other"] (defScope s__law_steps) := ⟨rfl, rfl, rfl, by decide +kernel, rfl, by decide +kernel, by decide +kernel⟩
abbrev sp__law_steps (K : Fg) : Sp := spP K (fun a : (Int × Int) × (Int × Int) × Unit => [.st none (Int × Int) (it (eT2 eI eI)) a.1, .st none (Int × Int) (it (eT2 eI eI)) a.2.1]) (it eI) (fun a => m__law_steps a.1 a.2.1)
set_option maxHeartbeats 0 in
theorem ok__law_steps (fa : Fa K mg) : FnOk P w K mg base CX0 1 fa.f__law_steps fa.fd__law_steps ["one", "other"] (sp__law_steps K) := by
  refine fnP fa.F__law_steps sc__law_steps 0 rfl (fun _ => rfl) fun cdv A' outer s H E hr => ?_
  have nd := sc__law_steps.nd
  have hu := hr.units
  have hu5 : (A'.deeper (envOfC "_law_steps" (defScope s__law_steps) s.heap.objs.size fa.f__law_steps cdv)).units + 65 < cLine := by have := hr.un; omega
  rintro ⟨a_one, a_other, _⟩
  exact lb_use (env := [.st none (Int × Int) (it (eT2 eI eI)) a_one, .st none (Int × Int) (it (eT2 eI eI)) a_other])
    (lb_ret (lx_add (lx_abs fa.z_abs (lx_sub (lx_part part2_0 (lx_var 0 cp_it rfl)) (fun p603 => (lx_part part2_0 (lx_var 1 cp_it rfl))))) (fun p604 => (lx_abs fa.z_abs (lx_sub (lx_part part2_1 (lx_var 0 cp_it rfl)) (fun p605 => (lx_part part2_1 (lx_var 1 cp_it rfl))))))) (fun _ => ()) (fun p => (.drop (.drop Sub.nil))))
    (by first | (unfold m__law_steps; dsimp only [id]; done) | (unfold m__law_steps; dsimp only [id]; rfl) | rfl)
abbrev n__law_least : List Str := ["bounds", "slope", "cell", "a", "b"]
theorem sc__law_least : FnScope n__law_least ["bounds", "slope", "cell"] (defScope s__law_least) := ⟨rfl, rfl, rfl, by decide +kernel, rfl, by decide +kernel, by decide +kernel⟩
abbrev sp__law_least (K : Fg) : Sp := spL K (ls (ls (it (eT2 eI eI)))) (fun a : Int × (Int × Int) × Unit => [.st none Int (it eI) a.1, .st none (Int × Int) (it (eT2 eI eI)) a.2.1]) (it eI) (fun t0 a => m__law_least t0 a.1 a.2.1)
set_option maxHeartbeats 0 in
theorem ok__law_least (fa : Fa K mg) : FnOk P w K mg base CX0 2 fa.f__law_least fa.fd__law_least ["bounds", "slope", "cell"] (sp__law_least K) := by
  refine fnL fa.F__law_least sc__law_least 2 rfl (fun _ => rfl) fun cdv A' outer s H E hr => ?_
  have nd := sc__law_least.nd
  have hu := hr.units
  have hu5 : (A'.deeper (envOfC "_law_least" (defScope s__law_least) s.heap.objs.size fa.f__law_least cdv)).units + 65 < cLine := by have := hr.un; omega
  rintro a_bounds ⟨a_slope, a_cell, _⟩
  exact lb_use (env := [.lk (List (List (Int × Int))) (ls (ls (it (eT2 eI eI)))) a_bounds, .st none Int (it eI) a_slope, .st none (Int × Int) (it (eT2 eI eI)) a_cell, .un, .un])
    (lb_ret (lx_maxI rfl lm_ow.w fa.z_max (lo_of (lx_lc (envT := (fun t608 : Unit => [.lk (List (List (Int × Int))) (ls (ls (it (eT2 eI eI)))) a_bounds, .st none Int (it eI) a_slope, .st none (Int × Int) (it (eT2 eI eI)) a_cell, .un, .un])) rfl nd (blkOk_by (N := n__law_least) (sc := defScope s__law_least) (own := [("a", 3), ("b", 4)]) (by decide +kernel)) (li_list lm_sh.w (lx_callLK 0 (ok__law_cells fa) (hr.mono (by decide)) fa.g__law_cells fa.F__law_cells.kp fa.b__law_cells (fun _ => .nil) rfl la_nil (fun _ => rfl))) (fun p607 => ()) (fun p607 => (Sub.refl _)) (by intro t i s hm he; simp at hm; rcases hm with rfl | rfl <;> (have e := Option.some.inj he; exact e.symm)) (fun _ _ _ _ _ t608 => (lg_tup (E := (eT2 eI eI)) (lgs_cons (lg_name 3 nd) (fun _ => (lgs_cons (lg_name 4 nd) (fun _ => lgs_nil)))) (fun x => (x.1, x.2, ())) (fun a : Int × Int × Unit => [eI.enc (a.1), eI.enc (a.2.1)]) (fun _ => (.cons (.cons .nil))) (fun _ => rfl) rfl (fun _ => rfl))) (fun _ _ _ _ _ t608 x609 => ltl_nil) (fun _ _ _ _ _ t608 x609 p610 => (lx_sub (lx_part part2_0 (lx_ix lm_ow.w (lo_ixK 0 rfl (lx_var 4 cp_it rfl) (fun _ => rfl)) (fun p612 => (lx_var 3 cp_it rfl)) (fun _ _ => rfl))) (fun p614 => (lx_mul (lx_var 1 cp_it rfl) (fun p615 => (lx_call (ok__law_steps fa) (hr.mono (by decide)) fa.g__law_steps fa.F__law_steps.kp fa.b__law_steps (fun _ => (.cons cp_it (.cons cp_it .nil))) (la_cons (lx_var 2 cp_it rfl) (fun p616 => (la_cons (lx_tup (la_cons (lx_var 3 cp_it rfl) (fun p617 => (la_cons (lx_var 4 cp_it rfl) (fun p618 => la_nil)))) (eT2 eI eI) (fun a : Int × Int × Unit => (a.1, a.2.1)) (fun a => [eI.enc a.1, eI.enc a.2.1]) (fun _ => (.cons (.cons .nil))) (fun _ => rfl)) (fun p619 => la_nil)))))))))) (fun t608 x609 p610 p621 => ()) (fun t608 x609 p610 p621 => by exact (.keep (.keep (.keep (.drop (.drop Sub.nil)))))) (fun t608 x609 p610 => ()) (fun t608 x609 p610 => by exact (.keep (.keep (.keep (.drop (.drop Sub.nil)))))))) (fun _ => trivial)) (fun _ => ()) (fun p => (.drop (.drop (.drop (.keep (.keep Sub.nil)))))))
    (by first | (unfold m__law_least; dsimp only [id]; done) | (unfold m__law_least; dsimp only [id]; rfl) | rfl)
abbrev n__law_most : List Str := ["bounds", "slope", "cell", "a", "b"]
theorem sc__law_most : FnScope n__law_most ["bounds", "slope", "cell"] (defScope s__law_most) := ⟨rfl, rfl, rfl, by decide +kernel, rfl, by decide +kernel, by decide +kernel⟩
abbrev sp__law_most (K : Fg) : Sp := spL K (ls (ls (it (eT2 eI eI)))) (fun a : Int × (Int × Int) × Unit => [.st none Int (it eI) a.1, .st none (Int × Int) (it (eT2 eI eI)) a.2.1]) (it eI) (fun t0 a => m__law_most t0 a.1 a.2.1)
set_option maxHeartbeats 0 in
theorem ok__law_most (fa : Fa K mg) : FnOk P w K mg base CX0 2 fa.f__law_most fa.fd__law_most ["bounds", "slope", "cell"] (sp__law_most K) := by
  refine fnL fa.F__law_most sc__law_most 2 rfl (fun _ => rfl) fun cdv A' outer s H E hr => ?_
  have nd := sc__law_most.nd
  have hu := hr.units
  have hu5 : (A'.deeper (envOfC "_law_most" (defScope s__law_most) s.heap.objs.size fa.f__law_most cdv)).units + 65 < cLine := by have := hr.un; omega
  rintro a_bounds ⟨a_slope, a_cell, _⟩
  exact lb_use (env := [.lk (List (List (Int × Int))) (ls (ls (it (eT2 eI eI)))) a_bounds, .st none Int (it eI) a_slope, .st none (Int × Int) (it (eT2 eI eI)) a_cell, .un, .un])
    (lb_ret (lx_minI rfl lm_ow.w fa.z_min (lo_of (lx_lc (envT := (fun t628 : Unit => [.lk (List (List (Int × Int))) (ls (ls (it (eT2 eI eI)))) a_bounds, .st none Int (it eI) a_slope, .st none (Int × Int) (it (eT2 eI eI)) a_cell, .un, .un])) rfl nd (blkOk_by (N := n__law_most) (sc := defScope s__law_most) (own := [("a", 3), ("b", 4)]) (by decide +kernel)) (li_list lm_sh.w (lx_callLK 0 (ok__law_cells fa) (hr.mono (by decide)) fa.g__law_cells fa.F__law_cells.kp fa.b__law_cells (fun _ => .nil) rfl la_nil (fun _ => rfl))) (fun p627 => ()) (fun p627 => (Sub.refl _)) (by intro t i s hm he; simp at hm; rcases hm with rfl | rfl <;> (have e := Option.some.inj he; exact e.symm)) (fun _ _ _ _ _ t628 => (lg_tup (E := (eT2 eI eI)) (lgs_cons (lg_name 3 nd) (fun _ => (lgs_cons (lg_name 4 nd) (fun _ => lgs_nil)))) (fun x => (x.1, x.2, ())) (fun a : Int × Int × Unit => [eI.enc (a.1), eI.enc (a.2.1)]) (fun _ => (.cons (.cons .nil))) (fun _ => rfl) rfl (fun _ => rfl))) (fun _ _ _ _ _ t628 x629 => ltl_nil) (fun _ _ _ _ _ t628 x629 p630 => (lx_add (lx_part part2_1 (lx_ix lm_ow.w (lo_ixK 0 rfl (lx_var 4 cp_it rfl) (fun _ => rfl)) (fun p635 => (lx_var 3 cp_it rfl)) (fun _ _ => rfl))) (fun p637 => (lx_mul (lx_var 1 cp_it rfl) (fun p638 => (lx_call (ok__law_steps fa) (hr.mono (by decide)) fa.g__law_steps fa.F__law_steps.kp fa.b__law_steps (fun _ => (.cons cp_it (.cons cp_it .nil))) (la_cons (lx_var 2 cp_it rfl) (fun p639 => (la_cons (lx_tup (la_cons (lx_var 3 cp_it rfl) (fun p640 => (la_cons (lx_var 4 cp_it rfl) (fun p641 => la_nil)))) (eT2 eI eI) (fun a : Int × Int × Unit => (a.1, a.2.1)) (fun a => [eI.enc a.1, eI.enc a.2.1]) (fun _ => (.cons (.cons .nil))) (fun _ => rfl)) (fun p642 => la_nil)))))))))) (fun t628 x629 p630 p644 => ()) (fun t628 x629 p630 p644 => by exact (.keep (.keep (.keep (.drop (.drop Sub.nil)))))) (fun t628 x629 p630 => ()) (fun t628 x629 p630 => by exact (.keep (.keep (.keep (.drop (.drop Sub.nil)))))))) (fun _ => trivial)) (fun _ => ()) (fun p => (.drop (.drop (.drop (.keep (.keep Sub.nil)))))))
    (by first | (unfold m__law_most; dsimp only [id]; done) | (unfold m__law_most; dsimp only [id]; rfl) | rfl)
abbrev n__law_cell_fault : List Str := ["bounds", "slope", "table", "holds", "cell", "x", "y", "low", "high", "a", "b", "cells", "one", "other"]
theorem sc__law_cell_fault : FnScope n__law_cell_fault ["bounds", "slope", "table", "holds", "cell"] (defScope s__law_cell_fault) := ⟨rfl, rfl, rfl, by decide +kernel, rfl, by decide +kernel, by decide +kernel⟩
abbrev sp__law_cell_fault (K : Fg) : Sp := spP K (fun a : (List (List (Int × Int))) × Int × (List (List (Int × Int))) × (List (List ((Int × Int) × (Int × Int)))) × (Int × Int) × Unit => [.st none (List (List (Int × Int))) (it (eL (eL (eT2 eI eI)))) a.1, .st none Int (it eI) a.2.1, .st none (List (List (Int × Int))) (it (eL (eL (eT2 eI eI)))) a.2.2.1, .st none (List (List ((Int × Int) × (Int × Int)))) (it (eL (eL (eT2 (eT2 eI eI) (eT2 eI eI))))) a.2.2.2.1, .st none (Int × Int) (it (eT2 eI eI)) a.2.2.2.2.1]) (it eD) (fun a => m__law_cell_fault a.1 a.2.1 a.2.2.1 a.2.2.2.1 a.2.2.2.2.1)
set_option maxHeartbeats 0 in
theorem ok__law_cell_fault (fa : Fa K mg) : FnOk P w K mg base CX0 2 fa.f__law_cell_fault fa.fd__law_cell_fault ["bounds", "slope", "table", "holds", "cell"] (sp__law_cell_fault K) := by
  refine fnP fa.F__law_cell_fault sc__law_cell_fault 9 rfl (fun _ => rfl) fun cdv A' outer s H E hr => ?_
  have nd := sc__law_cell_fault.nd
  have hu := hr.units
  have hu5 : (A'.deeper (envOfC "_law_cell_fault" (defScope s__law_cell_fault) s.heap.objs.size fa.f__law_cell_fault cdv)).units + 65 < cLine := by have := hr.un; omega
  rintro ⟨a_bounds, a_slope, a_table, a_holds, a_cell, _⟩
  exact lb_use (env := [.st none (List (List (Int × Int))) (it (eL (eL (eT2 eI eI)))) a_bounds, .st none Int (it eI) a_slope, .st none (List (List (Int × Int))) (it (eL (eL (eT2 eI eI)))) a_table, .st none (List (List ((Int × Int) × (Int × Int)))) (it (eL (eL (eT2 (eT2 eI eI) (eT2 eI eI))))) a_holds, .st none (Int × Int) (it (eT2 eI eI)) a_cell, .un, .un, .un, .un, .un, .un, .un, .un, .un])
    (lb_asg (lx_var 4 cp_it rfl) (fun p650 => (lg_tup (E := (eT2 eI eI)) (lgs_cons (lg_name 5 nd) (fun _ => (lgs_cons (lg_name 6 nd) (fun _ => lgs_nil)))) (fun x => (x.1, x.2, ())) (fun a : Int × Int × Unit => [eI.enc (a.1), eI.enc (a.2.1)]) (fun _ => (.cons (.cons .nil))) (fun _ => rfl) rfl (fun _ => rfl))) (fun x649 p650 => (lb_asg (lx_ix lm_sh.w (lo_of (lx_ix lm_sh.w (lo_of (lx_var 2 cp_it rfl)) (fun p651 => (lx_var 6 cp_it rfl)) (fun _ _ => trivial))) (fun p653 => (lx_var 5 cp_it rfl)) (fun _ _ => trivial)) (fun p656 => (lg_tup (E := (eT2 eI eI)) (lgs_cons (lg_name 7 nd) (fun _ => (lgs_cons (lg_name 8 nd) (fun _ => lgs_nil)))) (fun x => (x.1, x.2, ())) (fun a : Int × Int × Unit => [eI.enc (a.1), eI.enc (a.2.1)]) (fun _ => (.cons (.cons .nil))) (fun _ => rfl) rfl (fun _ => rfl))) (fun x655 p656 => (lb_ifr (lt_cmp (lc_gt (lx_var 7 cp_it rfl) (fun p657 => (lx_var 8 cp_it rfl))) (nomark _)) (fun p658 => (lb_ret (lx_tup (la_cons lx_str (fun p659 => (la_cons (lx_var 4 cp_it rfl) (fun p660 => la_nil)))) eD (fun a : Str × (Int × Int) × Unit => PyData.tuple [eS.enc a.1, (eT2 eI eI).enc a.2.1]) (fun a => [eS.enc a.1, (eT2 eI eI).enc a.2.1]) (fun _ => (.cons (.cons .nil))) (fun _ => rfl)) (fun _ => ()) (fun p => (.drop (.drop (.drop (.drop (.drop (.drop (.drop (.drop (.drop (.keep (.keep (.keep (.keep (.keep Sub.nil))))))))))))))))) (fun p658 => (lb_ifr (lt_cut (lt_w (lw_or (lt_cmp (lc_lt (lx_var 7 cp_it rfl) (fun p661 => (lx_part part2_0 (lx_ix lm_sh.w (lo_of (lx_ix lm_sh.w (lo_of (lx_var 0 cp_it rfl)) (fun p662 => (lx_var 6 cp_it rfl)) (fun _ _ => trivial))) (fun p664 => (lx_var 5 cp_it rfl)) (fun _ _ => trivial))))) (nomark _)) (fun p666 => (lw_or1 (lt_cmp (lc_gt (lx_var 8 cp_it rfl) (fun p667 => (lx_part part2_1 (lx_ix lm_sh.w (lo_of (lx_ix lm_sh.w (lo_of (lx_var 0 cp_it rfl)) (fun p668 => (lx_var 6 cp_it rfl)) (fun _ _ => trivial))) (fun p670 => (lx_var 5 cp_it rfl)) (fun _ _ => trivial))))) (nomark _)))) (fun p666 _ => Sub.refl _))) (fun _ => rfl)) (fun p673 => (lb_ret (lx_tup (la_cons lx_str (fun p674 => (la_cons (lx_var 4 cp_it rfl) (fun p675 => la_nil)))) eD (fun a : Str × (Int × Int) × Unit => PyData.tuple [eS.enc a.1, (eT2 eI eI).enc a.2.1]) (fun a => [eS.enc a.1, (eT2 eI eI).enc a.2.1]) (fun _ => (.cons (.cons .nil))) (fun _ => rfl)) (fun _ => ()) (fun p => (.drop (.drop (.drop (.drop (.drop (.drop (.drop (.drop (.drop (.keep (.keep (.keep (.keep (.keep Sub.nil))))))))))))))))) (fun p673 => (lb_for (envT := (fun t685 : Unit => [.st none (List (List (Int × Int))) (it (eL (eL (eT2 eI eI)))) a_bounds, .st none Int (it eI) a_slope, .st none (List (List (Int × Int))) (it (eL (eL (eT2 eI eI)))) a_table, .st none (List (List ((Int × Int) × (Int × Int)))) (it (eL (eL (eT2 (eT2 eI eI) (eT2 eI eI))))) a_holds, .st none (Int × Int) (it (eT2 eI eI)) a_cell, .st none Int (it eI) x649.1, .st none Int (it eI) x649.2, .st none Int (it eI) x655.1, .st none Int (it eI) x655.2, .un, .un, .un, .un, .un])) PassesOwn.never rfl (li_list lm_ow.w (lx_list (la_cons (lx_tup (la_cons (lx_add (lx_var 5 cp_it rfl) (fun p676 => lx_int)) (fun p677 => (la_cons (lx_var 6 cp_it rfl) (fun p678 => la_nil)))) (eT2 eI eI) (fun a : Int × Int × Unit => (a.1, a.2.1)) (fun a => [eI.enc a.1, eI.enc a.2.1]) (fun _ => (.cons (.cons .nil))) (fun _ => rfl)) (fun p679 => (la_cons (lx_tup (la_cons (lx_var 5 cp_it rfl) (fun p680 => (la_cons (lx_add (lx_var 6 cp_it rfl) (fun p681 => lx_int)) (fun p682 => la_nil)))) (eT2 eI eI) (fun a : Int × Int × Unit => (a.1, a.2.1)) (fun a => [eI.enc a.1, eI.enc a.2.1]) (fun _ => (.cons (.cons .nil))) (fun _ => rfl)) (fun p683 => la_nil)))) (eT2 eI eI) (fun a : (Int × Int) × (Int × Int) × Unit => [a.1, a.2.1]) (fun _ => (.cons (.cons .nil))))) (fun p684 => ()) (fun p684 => (Sub.refl _)) (fun t685 => (lg_tup (E := (eT2 eI eI)) (lgs_cons (lg_name 9 nd) (fun _ => (lgs_cons (lg_name 10 nd) (fun _ => lgs_nil)))) (fun x => (x.1, x.2, ())) (fun a : Int × Int × Unit => [eI.enc (a.1), eI.enc (a.2.1)]) (fun _ => (.cons (.cons .nil))) (fun _ => rfl) rfl (fun _ => rfl))) (fun x686 t685 kc687 kb688 => (lb_if (env1 := (fun j696 : Unit => [.st none (List (List (Int × Int))) (it (eL (eL (eT2 eI eI)))) a_bounds, .st none Int (it eI) a_slope, .st none (List (List (Int × Int))) (it (eL (eL (eT2 eI eI)))) a_table, .st none (List (List ((Int × Int) × (Int × Int)))) (it (eL (eL (eT2 (eT2 eI eI) (eT2 eI eI))))) a_holds, .st none (Int × Int) (it (eT2 eI eI)) a_cell, .st none Int (it eI) x649.1, .st none Int (it eI) x649.2, .st none Int (it eI) x655.1, .st none Int (it eI) x655.2, .st none Int (it eI) x686.1, .st none Int (it eI) x686.2, .un, .un, .un])) (lt_cut (lt_w (lw_and (lt_cmp (lc_lt (lx_var 9 cp_it rfl) (fun p689 => (lx_len lm_sh.w fa.z_len (lo_of (lx_ix lm_sh.w (lo_of (lx_var 2 cp_it rfl)) (fun p690 => lx_int) (fun _ _ => trivial))) (fun _ => trivial)))) (nomark _)) (fun p692 => (lw_and1 (lt_cmp (lc_lt (lx_var 10 cp_it rfl) (fun p693 => (lx_len lm_sh.w fa.z_len (lo_of (lx_var 2 cp_it rfl)) (fun _ => trivial)))) (nomark _)))) (fun p692 _ => Sub.refl _))) (fun _ => rfl)) (fun p695 => (lb_ifr (lt_cut (lt_w (lw_or (lt_cmp (lc_gt (lx_abs fa.z_abs (lx_sub (lx_var 7 cp_it rfl) (fun p698 => (lx_part part2_0 (lx_ix lm_sh.w (lo_of (lx_ix lm_sh.w (lo_of (lx_var 2 cp_it rfl)) (fun p699 => (lx_var 10 cp_it rfl)) (fun _ _ => trivial))) (fun p701 => (lx_var 9 cp_it rfl)) (fun _ _ => trivial)))))) (fun p703 => (lx_var 1 cp_it rfl))) (nomark _)) (fun p704 => (lw_or1 (lt_cmp (lc_gt (lx_abs fa.z_abs (lx_sub (lx_var 8 cp_it rfl) (fun p705 => (lx_part part2_1 (lx_ix lm_sh.w (lo_of (lx_ix lm_sh.w (lo_of (lx_var 2 cp_it rfl)) (fun p706 => (lx_var 10 cp_it rfl)) (fun _ _ => trivial))) (fun p708 => (lx_var 9 cp_it rfl)) (fun _ _ => trivial)))))) (fun p710 => (lx_var 1 cp_it rfl))) (nomark _)))) (fun p704 _ => Sub.refl _))) (fun _ => rfl)) (fun p712 => (lb_ret (lx_tup (la_cons lx_str (fun p713 => (la_cons (lx_var 4 cp_it rfl) (fun p714 => (la_cons (lx_tup (la_cons (lx_var 9 cp_it rfl) (fun p715 => (la_cons (lx_var 10 cp_it rfl) (fun p716 => la_nil)))) (eT2 eI eI) (fun a : Int × Int × Unit => (a.1, a.2.1)) (fun a => [eI.enc a.1, eI.enc a.2.1]) (fun _ => (.cons (.cons .nil))) (fun _ => rfl)) (fun p717 => la_nil)))))) eD (fun a : Str × (Int × Int) × (Int × Int) × Unit => PyData.tuple [eS.enc a.1, (eT2 eI eI).enc a.2.1, (eT2 eI eI).enc a.2.2.1]) (fun a => [eS.enc a.1, (eT2 eI eI).enc a.2.1, (eT2 eI eI).enc a.2.2.1]) (fun _ => (.cons (.cons (.cons .nil)))) (fun _ => rfl)) (fun _ => ()) (fun p => (.drop (.drop (.drop (.drop (.drop (.drop (.drop (.drop (.drop (.drop (.drop (.keep (.keep (.keep Sub.nil))))))))))))))))) (fun p712 => (lb_end () (Sub.refl _))))) (fun p695 => (lb_end () (Sub.refl _))) (fun j696 => (lb_end () (.keep (.keep (.keep (.keep (.keep (.keep (.keep (.keep (.keep (.drop (.drop (.keep (.keep (.keep Sub.nil)))))))))))))))))) (fun t720 => (lb_set 11 nd (lx_callLS (ok__law_cells fa) (hr.mono (by decide)) fa.g__law_cells fa.F__law_cells.kp fa.b__law_cells (fun _ => .nil) (la_cons (lx_var 0 cp_it rfl) (fun p722 => la_nil))) (fun v_cells_723 p724 => (lb_asg (lx_ix lm_sh.w (lo_of (lx_ix lm_sh.w (lo_of (lx_var 3 cp_it rfl)) (fun p725 => (lx_var 6 cp_it rfl)) (fun _ _ => trivial))) (fun p727 => (lx_var 5 cp_it rfl)) (fun _ _ => trivial)) (fun p730 => (lg_tup (E := (eT2 (eT2 eI eI) (eT2 eI eI))) (lgs_cons (lg_name 12 nd) (fun _ => (lgs_cons (lg_name 13 nd) (fun _ => lgs_nil)))) (fun x => (x.1, x.2, ())) (fun a : (Int × Int) × (Int × Int) × Unit => [(eT2 eI eI).enc (a.1), (eT2 eI eI).enc (a.2.1)]) (fun _ => (.cons (.cons .nil))) (fun _ => rfl) rfl (fun _ => rfl))) (fun x729 p730 => (lb_ifr (lt_cut (lt_w (lw_or (lt_cmp (lc_notInT hu5 dv_it dv_it (dtT2 dtI dtI) (evT2 evI evI) (lo_of (lx_var 12 cp_it rfl)) (fun p731 => (lo_of (lx_var 11 cp_it rfl))) (fun _ _ => trivial) (fun _ _ => trivial)) (by rfl)) (fun p732 => (lw_or1 (lt_cmp (lc_neI (lx_sub (lx_part part2_0 (lx_ix lm_sh.w (lo_of (lx_ix lm_sh.w (lo_of (lx_var 0 cp_it rfl)) (fun p733 => (lx_part part2_1 (lx_var 12 cp_it rfl))) (fun _ _ => trivial))) (fun p735 => (lx_part part2_0 (lx_var 12 cp_it rfl))) (fun _ _ => trivial))) (fun p737 => (lx_mul (lx_var 1 cp_it rfl) (fun p738 => (lx_call (ok__law_steps fa) (hr.mono (by decide)) fa.g__law_steps fa.F__law_steps.kp fa.b__law_steps (fun _ => (.cons cp_it (.cons cp_it .nil))) (la_cons (lx_var 4 cp_it rfl) (fun p739 => (la_cons (lx_var 12 cp_it rfl) (fun p740 => la_nil))))))))) (fun p742 => (lx_var 7 cp_it rfl))) (nomark _)))) (fun p732 _ => Sub.refl _))) (fun _ => rfl)) (fun p744 => (lb_ret (lx_tup (la_cons lx_str (fun p745 => (la_cons (lx_var 4 cp_it rfl) (fun p746 => la_nil)))) eD (fun a : Str × (Int × Int) × Unit => PyData.tuple [eS.enc a.1, (eT2 eI eI).enc a.2.1]) (fun a => [eS.enc a.1, (eT2 eI eI).enc a.2.1]) (fun _ => (.cons (.cons .nil))) (fun _ => rfl)) (fun _ => ()) (fun p => (.drop (.drop (.drop (.drop (.drop (.drop (.drop (.drop (.drop (.keep (.keep (.drop (.drop (.drop Sub.nil))))))))))))))))) (fun p744 => (lb_ifr (lt_cut (lt_w (lw_or (lt_cmp (lc_notInT hu5 dv_it dv_it (dtT2 dtI dtI) (evT2 evI evI) (lo_of (lx_var 13 cp_it rfl)) (fun p747 => (lo_of (lx_var 11 cp_it rfl))) (fun _ _ => trivial) (fun _ _ => trivial)) (by rfl)) (fun p748 => (lw_or1 (lt_cmp (lc_neI (lx_add (lx_part part2_1 (lx_ix lm_sh.w (lo_of (lx_ix lm_sh.w (lo_of (lx_var 0 cp_it rfl)) (fun p753 => (lx_part part2_1 (lx_var 13 cp_it rfl))) (fun _ _ => trivial))) (fun p755 => (lx_part part2_0 (lx_var 13 cp_it rfl))) (fun _ _ => trivial))) (fun p757 => (lx_mul (lx_var 1 cp_it rfl) (fun p758 => (lx_call (ok__law_steps fa) (hr.mono (by decide)) fa.g__law_steps fa.F__law_steps.kp fa.b__law_steps (fun _ => (.cons cp_it (.cons cp_it .nil))) (la_cons (lx_var 4 cp_it rfl) (fun p759 => (la_cons (lx_var 13 cp_it rfl) (fun p760 => la_nil))))))))) (fun p762 => (lx_var 8 cp_it rfl))) (nomark _)))) (fun p748 _ => Sub.refl _))) (fun _ => rfl)) (fun p764 => (lb_ret (lx_tup (la_cons lx_str (fun p765 => (la_cons (lx_var 4 cp_it rfl) (fun p766 => la_nil)))) eD (fun a : Str × (Int × Int) × Unit => PyData.tuple [eS.enc a.1, (eT2 eI eI).enc a.2.1]) (fun a => [eS.enc a.1, (eT2 eI eI).enc a.2.1]) (fun _ => (.cons (.cons .nil))) (fun _ => rfl)) (fun _ => ()) (fun p => (.drop (.drop (.drop (.drop (.drop (.drop (.drop (.drop (.drop (.keep (.keep (.drop (.drop (.drop Sub.nil))))))))))))))))) (fun p764 => (lb_ret (lx_as (E' := eD) lx_non eN.enc (fun _ => rfl)) (fun _ => ()) (fun p => (.drop (.drop (.drop (.drop (.drop (.drop (.drop (.drop (.drop (.keep (.keep (.drop (.drop (.drop Sub.nil))))))))))))))))))))))))))))))))))
    (by first | (unfold m__law_cell_fault; dsimp only [id]; done) | (unfold m__law_cell_fault; dsimp only [id]; rfl) | rfl)
abbrev n__law_fault : List Str := ["bounds", "slope", "told", "cells", "one", "other", "crossed", "word", "table", "holds", "rows", "row", "cell", "found"]
theorem sc__law_fault : FnScope n__law_fault ["bounds", "slope", "told"] (defScope s__law_fault) := ⟨rfl, rfl, rfl, by decide +kernel, rfl, by decide +kernel, by decide +kernel⟩
abbrev sp__law_fault (K : Fg) : Sp := spP K (fun a : (List (List (Int × Int))) × Int × PyData × Unit => [.st none (List (List (Int × Int))) (it (eL (eL (eT2 eI eI)))) a.1, .st none Int (it eI) a.2.1, .st none PyData (it eD) a.2.2.1]) (it eD) (fun a => m__law_fault a.1 a.2.1 a.2.2.1)
set_option maxHeartbeats 0 in
theorem ok__law_fault (fa : Fa K mg) : FnOk P w K mg base CX0 3 fa.f__law_fault fa.fd__law_fault ["bounds", "slope", "told"] (sp__law_fault K) := by
  refine fnP fa.F__law_fault sc__law_fault 11 rfl (fun _ => rfl) fun cdv A' outer s H E hr => ?_
  have nd := sc__law_fault.nd
  have hu := hr.units
  have hu5 : (A'.deeper (envOfC "_law_fault" (defScope s__law_fault) s.heap.objs.size fa.f__law_fault cdv)).units + 65 < cLine := by have := hr.un; omega
  rintro ⟨a_bounds, a_slope, a_told, _⟩
  exact lb_use (env := [.st none (List (List (Int × Int))) (it (eL (eL (eT2 eI eI)))) a_bounds, .st none Int (it eI) a_slope, .st none PyData (it eD) a_told, .un, .un, .un, .un, .un, .un, .un, .un, .un, .un, .un])
    (lb_set 3 nd (lx_callLS (ok__law_cells fa) (hr.mono (by decide)) fa.g__law_cells fa.F__law_cells.kp fa.b__law_cells (fun _ => .nil) (la_cons (lx_var 0 cp_it rfl) (fun p772 => la_nil))) (fun v_cells_773 p774 => (lb_ifr (lt_cmp (lc_eqS (lx_dec (E' := eS) dcS (lx_ixD (lx_var 2 cp_it rfl) (fun p778 => lx_int))) (fun p777 => lx_str)) (nomark _)) (fun p781 => (lb_parS 4 5 nd rfl (la_cons (lx_dec (E' := (eT2 eI eI)) (dcT2 dcI dcI) (lx_ixD (lx_var 2 cp_it rfl) (fun p782 => lx_int))) (fun p785 => (la_cons (lx_dec (E' := (eT2 eI eI)) (dcT2 dcI dcI) (lx_ixD (lx_var 2 cp_it rfl) (fun p786 => lx_int))) (fun p789 => la_nil)))) (fun _ => rfl) (fun x791 y792 p790 => (lb_ifr (lt_cut (lt_w (lw_or (lt_cmp (lc_notInT hu5 dv_it dv_it (dtT2 dtI dtI) (evT2 evI evI) (lo_of (lx_var 4 cp_it rfl)) (fun p793 => (lo_of (lx_var 3 cp_it rfl))) (fun _ _ => trivial) (fun _ _ => trivial)) (by rfl)) (fun p794 => (lw_or1 (lt_cmp (lc_notInT hu5 dv_it dv_it (dtT2 dtI dtI) (evT2 evI evI) (lo_of (lx_var 5 cp_it rfl)) (fun p795 => (lo_of (lx_var 3 cp_it rfl))) (fun _ _ => trivial) (fun _ _ => trivial)) (by rfl)))) (fun p794 _ => Sub.refl _))) (fun _ => rfl)) (fun p797 => (lb_ret (lx_tup (la_cons lx_str (fun p798 => la_nil)) eD (fun a : Str × Unit => PyData.tuple [eS.enc a.1]) (fun a => [eS.enc a.1]) (fun _ => (.cons .nil)) (fun _ => rfl)) (fun _ => ()) (fun p => (.drop (.drop (.drop (.drop (.drop (.drop (.keep (.keep (.keep (.keep (.keep (.keep (.keep (.keep Sub.nil))))))))))))))))) (fun p797 => (lb_set 6 nd (lx_cmp (lc_gt (lx_sub (lx_part part2_0 (lx_ix lm_sh.w (lo_of (lx_ix lm_sh.w (lo_of (lx_var 0 cp_it rfl)) (fun p799 => (lx_part part2_1 (lx_var 4 cp_it rfl))) (fun _ _ => trivial))) (fun p801 => (lx_part part2_0 (lx_var 4 cp_it rfl))) (fun _ _ => trivial))) (fun p803 => (lx_mul (lx_var 1 cp_it rfl) (fun p804 => (lx_call (ok__law_steps fa) (hr.mono (by decide)) fa.g__law_steps fa.F__law_steps.kp fa.b__law_steps (fun _ => (.cons cp_it (.cons cp_it .nil))) (la_cons (lx_var 4 cp_it rfl) (fun p805 => (la_cons (lx_var 5 cp_it rfl) (fun p806 => la_nil))))))))) (fun p808 => (lx_part part2_1 (lx_ix lm_sh.w (lo_of (lx_ix lm_sh.w (lo_of (lx_var 0 cp_it rfl)) (fun p809 => (lx_part part2_1 (lx_var 5 cp_it rfl))) (fun _ _ => trivial))) (fun p811 => (lx_part part2_0 (lx_var 5 cp_it rfl))) (fun _ _ => trivial))))) (nomark _)) (fun v_crossed_813 p814 => (lb_ret (lx_cut (lx_if (S := (it eD)) (lt_val (lx_var 6 cp_it rfl)) (fun p815 => (lx_as (E' := eD) lx_non eN.enc (fun _ => rfl))) (fun p815 => (lx_tup (la_cons lx_str (fun p816 => la_nil)) eD (fun a : Str × Unit => PyData.tuple [eS.enc a.1]) (fun a => [eS.enc a.1]) (fun _ => (.cons .nil)) (fun _ => rfl))) (fun p815 _ => Sub.refl _) (fun p815 _ => Sub.refl _)) (fun _ => rfl)) (fun _ => ()) (fun p => (.drop (.drop (.drop (.drop (.drop (.drop (.drop (.keep (.keep (.keep (.keep (.keep (.keep (.keep Sub.nil))))))))))))))))))))))) (fun p781 => (lb_asg (lx_dec (E' := (eT3 eS (eL (eL (eT2 eI eI))) (eL (eL (eT2 (eT2 eI eI) (eT2 eI eI)))))) (dcT3 dcS (dcL (dcL (dcT2 dcI dcI))) (dcL (dcL (dcT2 (dcT2 dcI dcI) (dcT2 dcI dcI))))) (lx_var 2 cp_it rfl)) (fun p823 => (lg_tup (E := (eT3 eS (eL (eL (eT2 eI eI))) (eL (eL (eT2 (eT2 eI eI) (eT2 eI eI)))))) (lgs_cons (lg_name 7 nd) (fun _ => (lgs_cons (lg_name 8 nd) (fun _ => (lgs_cons (lg_name 9 nd) (fun _ => lgs_nil)))))) (fun x => (x.1, x.2.1, x.2.2, ())) (fun a : Str × (List (List (Int × Int))) × (List (List ((Int × Int) × (Int × Int)))) × Unit => [eS.enc (a.1), (eL (eL (eT2 eI eI))).enc (a.2.1), (eL (eL (eT2 (eT2 eI eI) (eT2 eI eI)))).enc (a.2.2.1)]) (fun _ => (.cons (.cons (.cons .nil)))) (fun _ => rfl) rfl (fun _ => rfl))) (fun x822 p823 => (lb_for (envT := (fun t827 : Unit => [.st none (List (List (Int × Int))) (it (eL (eL (eT2 eI eI)))) a_bounds, .st none Int (it eI) a_slope, .st none PyData (it eD) a_told, .st none (List (Int × Int)) (it (eL (eT2 eI eI))) v_cells_773, .un, .un, .un, .st none Str (it eS) x822.1, .st none (List (List (Int × Int))) (it (eL (eL (eT2 eI eI)))) x822.2.1, .st none (List (List ((Int × Int) × (Int × Int)))) (it (eL (eL (eT2 (eT2 eI eI) (eT2 eI eI))))) x822.2.2, .un, .un, .un, .un])) PassesOwn.never rfl (li_list lm_ow.w (lx_list (la_cons (lx_as (E' := (eL (eL eD))) (lx_var 8 cp_it rfl) (List.map (List.map (eT2 eI eI).enc)) (fun _ => eLLD)) (fun p824 => (la_cons (lx_as (E' := (eL (eL eD))) (lx_var 9 cp_it rfl) (List.map (List.map (eT2 (eT2 eI eI) (eT2 eI eI)).enc)) (fun _ => eLLD)) (fun p825 => la_nil)))) (eL (eL eD)) (fun a : (List (List PyData)) × (List (List PyData)) × Unit => [a.1, a.2.1]) (fun _ => (.cons (.cons .nil))))) (fun p826 => ()) (fun p826 => (Sub.refl _)) (fun t827 => (lg_name 10 nd)) (fun x828 t827 kc829 kb830 => (lb_ifr (lt_cut (lt_w (lw_or (lt_cmp (lc_neI (lx_len lm_sh.w fa.z_len (lo_of (lx_var 10 cp_it rfl)) (fun _ => trivial)) (fun p831 => (lx_len lm_sh.w fa.z_len (lo_of (lx_var 0 cp_it rfl)) (fun _ => trivial)))) (nomark _)) (fun p832 => (lw_or1 (lt_cmp (lc_gt (lx_len lm_ow.w fa.z_len (lo_of (lx_lc (envT := (fun t834 : Unit => [.st none (List (List (Int × Int))) (it (eL (eL (eT2 eI eI)))) a_bounds, .st none Int (it eI) a_slope, .st none PyData (it eD) a_told, .st none (List (Int × Int)) (it (eL (eT2 eI eI))) v_cells_773, .un, .un, .un, .st none Str (it eS) x822.1, .st none (List (List (Int × Int))) (it (eL (eL (eT2 eI eI)))) x822.2.1, .st none (List (List ((Int × Int) × (Int × Int)))) (it (eL (eL (eT2 (eT2 eI eI) (eT2 eI eI))))) x822.2.2, .st none (List (List PyData)) (it (eL (eL eD))) x828, .un, .un, .un])) rfl nd (blkOk_by (N := n__law_fault) (sc := defScope s__law_fault) (own := [("row", 11)]) (by decide +kernel)) (li_list lm_sh.w (lx_var 10 cp_it rfl)) (fun p833 => ()) (fun p833 => (Sub.refl _)) (by intro t i s hm he; simp at hm; subst hm; (have e := Option.some.inj he; exact e.symm)) (fun _ _ _ _ _ t834 => (lg_name 11 nd)) (fun _ _ _ _ _ t834 x835 => (ltl_one (lt_cmp (lc_neI (lx_len lm_sh.w fa.z_len (lo_of (lx_var 11 cp_it rfl)) (fun _ => trivial)) (fun p836 => (lx_len lm_sh.w fa.z_len (lo_of (lx_ix lm_sh.w (lo_of (lx_var 0 cp_it rfl)) (fun p837 => lx_int) (fun _ _ => trivial))) (fun _ => trivial)))) (nomark _)))) (fun _ _ _ _ _ t834 x835 p839 => (lx_var 11 cp_it rfl)) (fun t834 x835 p839 p840 => ()) (fun t834 x835 p839 p840 => by exact (.keep (.keep (.keep (.keep (.keep (.keep (.keep (.keep (.keep (.keep (.keep (.drop (.keep (.keep Sub.nil))))))))))))))) (fun t834 x835 p839 => ()) (fun t834 x835 p839 => by exact (.keep (.keep (.keep (.keep (.keep (.keep (.keep (.keep (.keep (.keep (.keep (.drop (.keep (.keep Sub.nil))))))))))))))))) (fun _ => trivial)) (fun p844 => lx_int)) (nomark _)))) (fun p832 _ => Sub.refl _))) (fun _ => rfl)) (fun p846 => (lb_ret (lx_tup (la_cons lx_str (fun p847 => la_nil)) eD (fun a : Str × Unit => PyData.tuple [eS.enc a.1]) (fun a => [eS.enc a.1]) (fun _ => (.cons .nil)) (fun _ => rfl)) (fun _ => ()) (fun p => (.drop (.drop (.drop (.drop (.keep (.keep (.keep (.drop (.drop (.drop (.drop (.keep (.keep (.keep Sub.nil))))))))))))))))) (fun p846 => (lb_end () (.keep (.keep (.keep (.keep (.keep (.keep (.keep (.keep (.keep (.keep (.drop (.keep (.keep (.keep Sub.nil)))))))))))))))))) (fun t849 => (lb_for (envT := (fun t851 : Unit => [.st none (List (List (Int × Int))) (it (eL (eL (eT2 eI eI)))) a_bounds, .st none Int (it eI) a_slope, .st none PyData (it eD) a_told, .st none (List (Int × Int)) (it (eL (eT2 eI eI))) v_cells_773, .un, .un, .un, .st none Str (it eS) x822.1, .st none (List (List (Int × Int))) (it (eL (eL (eT2 eI eI)))) x822.2.1, .st none (List (List ((Int × Int) × (Int × Int)))) (it (eL (eL (eT2 (eT2 eI eI) (eT2 eI eI))))) x822.2.2, .un, .un, .un, .un])) PassesOwn.never rfl (li_list lm_sh.w (lx_var 3 cp_it rfl)) (fun p850 => ()) (fun p850 => (Sub.refl _)) (fun t851 => (lg_name 12 nd)) (fun x852 t851 kc853 kb854 => (lb_set 13 nd (lx_call (ok__law_cell_fault fa) (hr.mono (by decide)) fa.g__law_cell_fault fa.F__law_cell_fault.kp fa.b__law_cell_fault (fun _ => (.cons cp_it (.cons cp_it (.cons cp_it (.cons cp_it (.cons cp_it .nil)))))) (la_cons (lx_var 0 cp_it rfl) (fun p855 => (la_cons (lx_var 1 cp_it rfl) (fun p856 => (la_cons (lx_var 8 cp_it rfl) (fun p857 => (la_cons (lx_var 9 cp_it rfl) (fun p858 => (la_cons (lx_var 12 cp_it rfl) (fun p859 => la_nil))))))))))) (fun v_found_861 p862 => (lb_ifr (lt_cmp (lc_notN (lx_var 13 cp_it rfl)) (nomark _)) (fun p863 => (lb_ret (lx_var 13 cp_it rfl) (fun _ => ()) (fun p => (.drop (.drop (.drop (.drop (.keep (.keep (.keep (.drop (.drop (.drop (.keep (.keep (.drop (.drop Sub.nil))))))))))))))))) (fun p863 => (lb_end () (.keep (.keep (.keep (.keep (.keep (.keep (.keep (.keep (.keep (.keep (.keep (.keep (.drop (.drop Sub.nil)))))))))))))))))))) (fun t864 => (lb_ret (lx_as (E' := eD) lx_non eN.enc (fun _ => rfl)) (fun _ => ()) (fun p => (.drop (.drop (.drop (.drop (.keep (.keep (.keep (.drop (.drop (.drop (.keep (.keep (.keep (.keep Sub.nil))))))))))))))))))))))))))
    (by first | (unfold m__law_fault; dsimp only [id]; done) | (unfold m__law_fault; dsimp only [id]; rfl) | rfl)
abbrev n__law_crossing : List Str := ["bounds", "slope", "one", "other"]
theorem sc__law_crossing : FnScope n__law_crossing ["bounds", "slope"] (defScope s__law_crossing) := ⟨rfl, rfl, rfl, by decide +kernel, rfl, by decide +kernel, by decide +kernel⟩
abbrev sp__law_crossing (K : Fg) : Sp := spP K (fun a : (List (List (Int × Int))) × Int × Unit => [.st none (List (List (Int × Int))) (it (eL (eL (eT2 eI eI)))) a.1, .st none Int (it eI) a.2.1]) (it (eO (eT2 (eT2 eI eI) (eT2 eI eI)) (fun _ h => by cases h))) (fun a => m__law_crossing a.1 a.2.1)
set_option maxHeartbeats 0 in
theorem ok__law_crossing (fa : Fa K mg) : FnOk P w K mg base CX0 2 fa.f__law_crossing fa.fd__law_crossing ["bounds", "slope"] (sp__law_crossing K) := by
  refine fnP fa.F__law_crossing sc__law_crossing 2 rfl (fun _ => rfl) fun cdv A' outer s H E hr => ?_
  have nd := sc__law_crossing.nd
  have hu := hr.units
  have hu5 : (A'.deeper (envOfC "_law_crossing" (defScope s__law_crossing) s.heap.objs.size fa.f__law_crossing cdv)).units + 65 < cLine := by have := hr.un; omega
  rintro ⟨a_bounds, a_slope, _⟩
  exact lb_use (env := [.st none (List (List (Int × Int))) (it (eL (eL (eT2 eI eI)))) a_bounds, .st none Int (it eI) a_slope, .un, .un])
    (lb_for (envT := (fun t870 : Unit => [.st none (List (List (Int × Int))) (it (eL (eL (eT2 eI eI)))) a_bounds, .st none Int (it eI) a_slope, .un, .un])) PassesOwn.never rfl (li_list lm_sh.w (lx_callLS (ok__law_cells fa) (hr.mono (by decide)) fa.g__law_cells fa.F__law_cells.kp fa.b__law_cells (fun _ => .nil) (la_cons (lx_var 0 cp_it rfl) (fun p868 => la_nil)))) (fun p869 => ()) (fun p869 => (Sub.refl _)) (fun t870 => (lg_name 2 nd)) (fun x871 t870 kc872 kb873 => (lb_for (envT := (fun t877 : Unit => [.st none (List (List (Int × Int))) (it (eL (eL (eT2 eI eI)))) a_bounds, .st none Int (it eI) a_slope, .st none (Int × Int) (it (eT2 eI eI)) x871, .un])) PassesOwn.never rfl (li_list lm_sh.w (lx_callLS (ok__law_cells fa) (hr.mono (by decide)) fa.g__law_cells fa.F__law_cells.kp fa.b__law_cells (fun _ => .nil) (la_cons (lx_var 0 cp_it rfl) (fun p875 => la_nil)))) (fun p876 => ()) (fun p876 => (Sub.refl _)) (fun t877 => (lg_name 3 nd)) (fun x878 t877 kc879 kb880 => (lb_ifr (lt_cmp (lc_gt (lx_sub (lx_part part2_0 (lx_ix lm_sh.w (lo_of (lx_ix lm_sh.w (lo_of (lx_var 0 cp_it rfl)) (fun p881 => (lx_part part2_1 (lx_var 2 cp_it rfl))) (fun _ _ => trivial))) (fun p883 => (lx_part part2_0 (lx_var 2 cp_it rfl))) (fun _ _ => trivial))) (fun p885 => (lx_mul (lx_var 1 cp_it rfl) (fun p886 => (lx_call (ok__law_steps fa) (hr.mono (by decide)) fa.g__law_steps fa.F__law_steps.kp fa.b__law_steps (fun _ => (.cons cp_it (.cons cp_it .nil))) (la_cons (lx_var 2 cp_it rfl) (fun p887 => (la_cons (lx_var 3 cp_it rfl) (fun p888 => la_nil))))))))) (fun p890 => (lx_part part2_1 (lx_ix lm_sh.w (lo_of (lx_ix lm_sh.w (lo_of (lx_var 0 cp_it rfl)) (fun p891 => (lx_part part2_1 (lx_var 3 cp_it rfl))) (fun _ _ => trivial))) (fun p893 => (lx_part part2_0 (lx_var 3 cp_it rfl))) (fun _ _ => trivial))))) (nomark _)) (fun p895 => (lb_ret (lx_as (E' := (eO (eT2 (eT2 eI eI) (eT2 eI eI)) (fun _ h => by cases h))) (g := some) (lx_tup (la_cons (lx_var 2 cp_it rfl) (fun p896 => (la_cons (lx_var 3 cp_it rfl) (fun p897 => la_nil)))) (eT2 (eT2 eI eI) (eT2 eI eI)) (fun a : (Int × Int) × (Int × Int) × Unit => (a.1, a.2.1)) (fun a => [(eT2 eI eI).enc a.1, (eT2 eI eI).enc a.2.1]) (fun _ => (.cons (.cons .nil))) (fun _ => rfl)) (hg := fun _ => rfl)) (fun _ => ()) (fun p => (.drop (.drop (.drop (.drop Sub.nil))))))) (fun p895 => (lb_end () (.keep (.keep (.keep (.drop Sub.nil)))))))) (fun t898 => (lb_end () (.keep (.keep (.drop (.keep Sub.nil)))))))) (fun t900 => (lb_ret (lx_as (E' := (eO (eT2 (eT2 eI eI) (eT2 eI eI)) (fun _ h => by cases h))) lx_non (fun _ => none) (fun _ => rfl)) (fun _ => ()) (fun p => (.drop (.drop (.keep (.keep Sub.nil))))))))
    (by first | (unfold m__law_crossing; dsimp only [id]; done) | (unfold m__law_crossing; dsimp only [id]; rfl) | rfl)
abbrev n__law_bent : List Str := ["state", "bounds", "told", "cells", "table", "holds", "row", "x", "y", "kind", "low", "high"]
theorem sc__law_bent : FnScope n__law_bent ["state", "bounds", "told"] (defScope s__law_bent) := ⟨rfl, rfl, rfl, by decide +kernel, rfl, by decide +kernel, by decide +kernel⟩
abbrev sp__law_bent (K : Fg) : Sp := spI K stT (fun a : (List (List (Int × Int))) × PyData × Unit => [.st none (List (List (Int × Int))) (it (eL (eL (eT2 eI eI)))) a.1, .st none PyData (it eD) a.2.1]) (it eD) (fun t0 a => m__law_bent t0 a.1 a.2.1)
set_option maxHeartbeats 0 in
theorem ok__law_bent (fa : Fa K mg) : FnOk P w K mg base CX0 2 fa.f__law_bent fa.fd__law_bent ["state", "bounds", "told"] (sp__law_bent K) := by
  refine fnI fa.F__law_bent sc__law_bent 9 rfl (fun _ => rfl) fun cdv A' outer s H E hr => ?_
  have nd := sc__law_bent.nd
  have hu := hr.units
  have hu5 : (A'.deeper (envOfC "_law_bent" (defScope s__law_bent) s.heap.objs.size fa.f__law_bent cdv)).units + 65 < cLine := by have := hr.un; omega
  rintro v0 t0 ⟨a_bounds, a_told, _⟩
  exact lb_use (env := [.st (some v0) TSt stT t0, .st none (List (List (Int × Int))) (it (eL (eL (eT2 eI eI)))) a_bounds, .st none PyData (it eD) a_told, .un, .un, .un, .un, .un, .un, .un, .un, .un])
    (lb_set 3 nd (lx_cat lm_sh lm_ow (lo_of (lx_callLS (ok__law_cells fa) (hr.mono (by decide)) fa.g__law_cells fa.F__law_cells.kp fa.b__law_cells (fun _ => .nil) (la_cons (lx_var 1 cp_it rfl) (fun p903 => la_nil)))) (fun p904 => (lo_of (lx_list (la_cons (lx_tup (la_cons lx_int (fun p905 => (la_cons lx_int (fun p906 => la_nil)))) (eT2 eI eI) (fun a : Int × Int × Unit => (a.1, a.2.1)) (fun a => [eI.enc a.1, eI.enc a.2.1]) (fun _ => (.cons (.cons .nil))) (fun _ => rfl)) (fun p907 => la_nil)) (eT2 eI eI) (fun a : (Int × Int) × Unit => [a.1]) (fun _ => (.cons .nil))))) (fun _ _ => trivial) (fun _ _ => trivial)) (fun v_cells_910 p911 => (lb_ifr (lt_w (lw_orJ (fun j922 : TSt => [.st (some v0) TSt stT j922, .st none (List (List (Int × Int))) (it (eL (eL (eT2 eI eI)))) a_bounds, .st none PyData (it eD) a_told, .st none (List (Int × Int)) (ls (it (eT2 eI eI))) v_cells_910, .un, .un, .un, .un, .un, .un, .un, .un]) (lt_cmp (lc_eqS (lx_dec (E' := eS) dcS (lx_ixD (lx_var 2 cp_it rfl) (fun p915 => lx_int))) (fun p914 => lx_str)) (nomark _)) (fun p918 => (lw_or1 (lt_cmp (lc_eqI (lx_callI 0 (ok__law_take fa) (hr.mono (by decide)) fa.g__law_take fa.F__law_take.kp fa.b__law_take (fun _ => (.cons cp_it .nil)) rfl (la_cons lx_int (fun p919 => la_nil)) (fun _ => rfl)) (fun p921 => lx_int)) (nomark _)))) (fun p918 => t0) (fun p918 p923 => p923.1.2) (fun p918 => by exact (.keep (.keep (.keep (.keep (.keep (.keep (.keep (.keep (.keep (.keep (.keep (.keep Sub.nil))))))))))))) (fun p918 p923 => by exact (.keep (.keep (.keep (.keep (.keep (.keep (.keep (.keep (.keep (.keep (.keep (.keep Sub.nil))))))))))))))) (fun p926 => (lb_ret (lx_tup (la_cons lx_str (fun p927 => (la_cons (lx_ix lm_ow.w (lo_var 3 rfl) (fun p928 => (lx_callI 0 (ok__law_take fa) (hr.mono (by decide)) fa.g__law_take fa.F__law_take.kp fa.b__law_take (fun _ => (.cons cp_it .nil)) rfl (la_cons (lx_len lm_ow.w fa.z_len (lo_var 3 rfl) (fun _ => rfl)) (fun p929 => la_nil)) (fun _ => rfl))) (fun _ _ => rfl)) (fun p932 => (la_cons (lx_ix lm_ow.w (lo_var 3 rfl) (fun p933 => (lx_callI 0 (ok__law_take fa) (hr.mono (by decide)) fa.g__law_take fa.F__law_take.kp fa.b__law_take (fun _ => (.cons cp_it .nil)) rfl (la_cons (lx_len lm_ow.w fa.z_len (lo_var 3 rfl) (fun _ => rfl)) (fun p934 => la_nil)) (fun _ => rfl))) (fun _ _ => rfl)) (fun p937 => la_nil)))))) eD (fun a : Str × (Int × Int) × (Int × Int) × Unit => PyData.tuple [eS.enc a.1, (eT2 eI eI).enc a.2.1, (eT2 eI eI).enc a.2.2.1]) (fun a => [eS.enc a.1, (eT2 eI eI).enc a.2.1, (eT2 eI eI).enc a.2.2.1]) (fun _ => (.cons (.cons (.cons .nil)))) (fun _ => rfl)) (fun p => p.2.2.1.2.2) (fun p => (.keep (.drop (.drop (.drop (.keep (.keep (.keep (.keep (.keep (.keep (.keep (.keep Sub.nil))))))))))))))) (fun p926 => (lb_parS 4 5 nd rfl (la_cons (lx_lc (envT := (fun t942 : Unit => [.st (some v0) TSt stT p926, .st none (List (List (Int × Int))) (it (eL (eL (eT2 eI eI)))) a_bounds, .st none PyData (it eD) a_told, .st none (List (Int × Int)) (ls (it (eT2 eI eI))) v_cells_910, .un, .un, .un, .un, .un, .un, .un, .un])) rfl nd (blkOk_by (N := n__law_bent) (sc := defScope s__law_bent) (own := [("row", 6)]) (by decide +kernel)) (li_list lm_sh.w (lx_dec (E' := (eL (eL (eT2 eI eI)))) (dcL (dcL (dcT2 dcI dcI))) (lx_ixD (lx_var 2 cp_it rfl) (fun p938 => lx_int)))) (fun p941 => ()) (fun p941 => (Sub.refl _)) (by intro t i s hm he; simp at hm; subst hm; (have e := Option.some.inj he; exact e.symm)) (fun _ _ _ _ _ t942 => (lg_name 6 nd)) (fun _ _ _ _ _ t942 x943 => ltl_nil) (fun _ _ _ _ _ t942 x943 p944 => (lx_listof lm_sh.w fa.z_list (lo_of (lx_var 6 cp_it rfl)) (fun _ => trivial))) (fun t942 x943 p944 p945 => ()) (fun t942 x943 p944 p945 => by exact (.keep (.keep (.keep (.keep (.keep (.keep (.drop (.keep (.keep (.keep (.keep (.keep Sub.nil))))))))))))) (fun t942 x943 p944 => ()) (fun t942 x943 p944 => by exact (.keep (.keep (.keep (.keep (.keep (.keep (.drop (.keep (.keep (.keep (.keep (.keep Sub.nil)))))))))))))) (fun p949 => (la_cons (lx_lc (envT := (fun t954 : Unit => [.st (some v0) TSt stT p926, .st none (List (List (Int × Int))) (it (eL (eL (eT2 eI eI)))) a_bounds, .st none PyData (it eD) a_told, .st none (List (Int × Int)) (ls (it (eT2 eI eI))) v_cells_910, .un, .un, .un, .un, .un, .un, .un, .un])) rfl nd (blkOk_by (N := n__law_bent) (sc := defScope s__law_bent) (own := [("row", 6)]) (by decide +kernel)) (li_list lm_sh.w (lx_dec (E' := (eL (eL (eT2 (eT2 eI eI) (eT2 eI eI))))) (dcL (dcL (dcT2 (dcT2 dcI dcI) (dcT2 dcI dcI)))) (lx_ixD (lx_var 2 cp_it rfl) (fun p950 => lx_int)))) (fun p953 => ()) (fun p953 => (Sub.refl _)) (by intro t i s hm he; simp at hm; subst hm; (have e := Option.some.inj he; exact e.symm)) (fun _ _ _ _ _ t954 => (lg_name 6 nd)) (fun _ _ _ _ _ t954 x955 => ltl_nil) (fun _ _ _ _ _ t954 x955 p956 => (lx_listof lm_sh.w fa.z_list (lo_of (lx_var 6 cp_it rfl)) (fun _ => trivial))) (fun t954 x955 p956 p957 => ()) (fun t954 x955 p956 p957 => by exact (.keep (.keep (.keep (.keep (.keep (.keep (.drop (.keep (.keep (.keep (.keep (.keep Sub.nil))))))))))))) (fun t954 x955 p956 => ()) (fun t954 x955 p956 => by exact (.keep (.keep (.keep (.keep (.keep (.keep (.drop (.keep (.keep (.keep (.keep (.keep Sub.nil)))))))))))))) (fun p961 => la_nil)))) (fun _ => rfl) (fun x963 y964 p962 => (lb_parS 7 8 nd rfl (la_cons (lx_callI 0 (ok__law_take fa) (hr.mono (by decide)) fa.g__law_take fa.F__law_take.kp fa.b__law_take (fun _ => (.cons cp_it .nil)) rfl (la_cons (lx_lenIx 4 fa.z_len rfl lx_int (fun _ => rfl)) (fun p966 => la_nil)) (fun _ => rfl)) (fun p968 => (la_cons (lx_callI 0 (ok__law_take fa) (hr.mono (by decide)) fa.g__law_take fa.F__law_take.kp fa.b__law_take (fun _ => (.cons cp_it .nil)) rfl (la_cons (lx_lenO lm_ow.w fa.z_len (lo_var 4 rfl) (fun _ => rfl)) (fun p969 => la_nil)) (fun _ => rfl)) (fun p971 => la_nil)))) (fun _ => rfl) (fun x973 y974 p972 => (lb_set 9 nd (lx_callI 0 (ok__law_take fa) (hr.mono (by decide)) fa.g__law_take fa.F__law_take.kp fa.b__law_take (fun _ => (.cons cp_it .nil)) rfl (la_cons lx_int (fun p975 => la_nil)) (fun _ => rfl)) (fun v_kind_977 p978 => (lb_if (env1 := (fun j981 : (TSt × (List (List (Int × Int))) × (List (List ((Int × Int) × (Int × Int))))) => [.st (some v0) TSt stT j981.1, .st none (List (List (Int × Int))) (it (eL (eL (eT2 eI eI)))) a_bounds, .st none PyData (it eD) a_told, .st none (List (Int × Int)) (ls (it (eT2 eI eI))) v_cells_910, .st none (List (List (Int × Int))) (it (eL (eL (eT2 eI eI)))) j981.2.1, .st none (List (List ((Int × Int) × (Int × Int)))) (ls (ls (it (eT2 (eT2 eI eI) (eT2 eI eI))))) j981.2.2, .un, .st none Int (it eI) x973, .st none Int (it eI) y974, .st none Int (it eI) v_kind_977, .un, .un])) (lt_cmp (lc_lt (lx_var 9 cp_it rfl) (fun p979 => lx_int)) (nomark _)) (fun p980 => (lb_asg (lx_ixM 4 rfl (lx_var 8 cp_it rfl) (fun _ => rfl) (fun q984 vs985 p983 => (lx_var 7 cp_it rfl)) (fun _ _ _ _ => rfl)) (fun p989 => (lg_tup (E := (eT2 eI eI)) (lgs_cons (lg_name 10 nd) (fun _ => (lgs_cons (lg_name 11 nd) (fun _ => lgs_nil)))) (fun x => (x.1, x.2, ())) (fun a : Int × Int × Unit => [eI.enc (a.1), eI.enc (a.2.1)]) (fun _ => (.cons (.cons .nil))) (fun _ => rfl) rfl (fun _ => rfl))) (fun x988 p989 => (lb_setIx2 (E := (eT2 eI eI)) (w := none) 4 (lx_ix lm_ow.w (lo_of (lx_list (la_cons (lx_tup (la_cons (lx_add (lx_var 10 cp_it rfl) (fun p990 => lx_int)) (fun p991 => (la_cons (lx_var 11 cp_it rfl) (fun p992 => la_nil)))) (eT2 eI eI) (fun a : Int × Int × Unit => (a.1, a.2.1)) (fun a => [eI.enc a.1, eI.enc a.2.1]) (fun _ => (.cons (.cons .nil))) (fun _ => rfl)) (fun p993 => (la_cons (lx_tup (la_cons (lx_sub (lx_var 10 cp_it rfl) (fun p994 => lx_int)) (fun p995 => (la_cons (lx_var 11 cp_it rfl) (fun p996 => la_nil)))) (eT2 eI eI) (fun a : Int × Int × Unit => (a.1, a.2.1)) (fun a => [eI.enc a.1, eI.enc a.2.1]) (fun _ => (.cons (.cons .nil))) (fun _ => rfl)) (fun p997 => (la_cons (lx_tup (la_cons (lx_var 10 cp_it rfl) (fun p998 => (la_cons (lx_add (lx_var 11 cp_it rfl) (fun p999 => lx_int)) (fun p1000 => la_nil)))) (eT2 eI eI) (fun a : Int × Int × Unit => (a.1, a.2.1)) (fun a => [eI.enc a.1, eI.enc a.2.1]) (fun _ => (.cons (.cons .nil))) (fun _ => rfl)) (fun p1001 => (la_cons (lx_tup (la_cons (lx_var 10 cp_it rfl) (fun p1002 => (la_cons (lx_sub (lx_var 11 cp_it rfl) (fun p1003 => lx_int)) (fun p1004 => la_nil)))) (eT2 eI eI) (fun a : Int × Int × Unit => (a.1, a.2.1)) (fun a => [eI.enc a.1, eI.enc a.2.1]) (fun _ => (.cons (.cons .nil))) (fun _ => rfl)) (fun p1005 => la_nil)))))))) (eT2 eI eI) (fun a : (Int × Int) × (Int × Int) × (Int × Int) × (Int × Int) × Unit => [a.1, a.2.1, a.2.2.1, a.2.2.2.1]) (fun _ => (.cons (.cons (.cons (.cons .nil))))))) (fun p1006 => (lx_callI 0 (ok__law_take fa) (hr.mono (by decide)) fa.g__law_take fa.F__law_take.kp fa.b__law_take (fun _ => (.cons cp_it .nil)) rfl (la_cons lx_int (fun p1007 => la_nil)) (fun _ => rfl))) (fun _ _ => trivial)) (fun _ => rfl) (fun y1010 p1011 => (lx_var 8 cp_it rfl)) (fun _ _ _ => rfl) (fun q1017 vs1018 y1010 p1011 p1013 => (lx_var 7 cp_it rfl)) (fun _ _ _ _ _ _ => rfl) (fun q1017 vs1018 y1010 p1011 a1012 p1013 b1014 p1015 z1016 => by exact (lb_frz 4 (fz_ls (fz_ls fz_it)) rfl (lb_end (p1011.2.2, z1016, y964) (.keep (.keep (.keep (.keep (.keep (.keep (.keep (.keep (.keep (.keep (.drop (.drop Sub.nil))))))))))))))))))) (fun p980 => (lb_if (env1 := (fun j1023 : (TSt × (List (List (Int × Int))) × (List (List ((Int × Int) × (Int × Int))))) => [.st (some v0) TSt stT j1023.1, .st none (List (List (Int × Int))) (it (eL (eL (eT2 eI eI)))) a_bounds, .st none PyData (it eD) a_told, .st none (List (Int × Int)) (ls (it (eT2 eI eI))) v_cells_910, .st none (List (List (Int × Int))) (it (eL (eL (eT2 eI eI)))) j1023.2.1, .st none (List (List ((Int × Int) × (Int × Int)))) (ls (ls (it (eT2 (eT2 eI eI) (eT2 eI eI))))) j1023.2.2, .un, .st none Int (it eI) x973, .st none Int (it eI) y974, .st none Int (it eI) v_kind_977, .un, .un])) (lt_cmp (lc_eqI (lx_var 9 cp_it rfl) (fun p1021 => lx_int)) (nomark _)) (fun p1022 => (lb_setIx2 (E := (eT2 (eT2 eI eI) (eT2 eI eI))) (w := none) 5 (lx_tup (la_cons (lx_ix lm_ow.w (lo_var 3 rfl) (fun p1025 => (lx_callI 0 (ok__law_take fa) (hr.mono (by decide)) fa.g__law_take fa.F__law_take.kp fa.b__law_take (fun _ => (.cons cp_it .nil)) rfl (la_cons (lx_len lm_ow.w fa.z_len (lo_var 3 rfl) (fun _ => rfl)) (fun p1026 => la_nil)) (fun _ => rfl))) (fun _ _ => rfl)) (fun p1029 => (la_cons (lx_part part2_1 (lx_ixM 5 rfl (lx_var 8 cp_it rfl) (fun _ => rfl) (fun q1031 vs1032 p1030 => (lx_var 7 cp_it rfl)) (fun _ _ _ _ => rfl))) (fun p1035 => la_nil)))) (eT2 (eT2 eI eI) (eT2 eI eI)) (fun a : (Int × Int) × (Int × Int) × Unit => (a.1, a.2.1)) (fun a => [(eT2 eI eI).enc a.1, (eT2 eI eI).enc a.2.1]) (fun _ => (.cons (.cons .nil))) (fun _ => rfl)) (fun _ => rfl) (fun y1036 p1037 => (lx_var 8 cp_it rfl)) (fun _ _ _ => rfl) (fun q1043 vs1044 y1036 p1037 p1039 => (lx_var 7 cp_it rfl)) (fun _ _ _ _ _ _ => rfl) (fun q1043 vs1044 y1036 p1037 a1038 p1039 b1040 p1041 z1042 => by exact (lb_frz 4 (fz_ls (fz_ls fz_it)) rfl (lb_end (p1037.1.2.2, x963, z1042) (Sub.refl _)))))) (fun p1022 => (lb_if (env1 := (fun j1049 : (TSt × (List (List (Int × Int))) × (List (List ((Int × Int) × (Int × Int))))) => [.st (some v0) TSt stT j1049.1, .st none (List (List (Int × Int))) (it (eL (eL (eT2 eI eI)))) a_bounds, .st none PyData (it eD) a_told, .st none (List (Int × Int)) (ls (it (eT2 eI eI))) v_cells_910, .st none (List (List (Int × Int))) (it (eL (eL (eT2 eI eI)))) j1049.2.1, .st none (List (List ((Int × Int) × (Int × Int)))) (ls (ls (it (eT2 (eT2 eI eI) (eT2 eI eI))))) j1049.2.2, .un, .st none Int (it eI) x973, .st none Int (it eI) y974, .st none Int (it eI) v_kind_977, .un, .un])) (lt_cmp (lc_eqI (lx_var 9 cp_it rfl) (fun p1047 => lx_int)) (nomark _)) (fun p1048 => (lb_setIx2 (E := (eT2 (eT2 eI eI) (eT2 eI eI))) (w := none) 5 (lx_tup (la_cons (lx_part part2_0 (lx_ixM 5 rfl (lx_var 8 cp_it rfl) (fun _ => rfl) (fun q1052 vs1053 p1051 => (lx_var 7 cp_it rfl)) (fun _ _ _ _ => rfl))) (fun p1056 => (la_cons (lx_ix lm_ow.w (lo_var 3 rfl) (fun p1057 => (lx_callI 0 (ok__law_take fa) (hr.mono (by decide)) fa.g__law_take fa.F__law_take.kp fa.b__law_take (fun _ => (.cons cp_it .nil)) rfl (la_cons (lx_len lm_ow.w fa.z_len (lo_var 3 rfl) (fun _ => rfl)) (fun p1058 => la_nil)) (fun _ => rfl))) (fun _ _ => rfl)) (fun p1061 => la_nil)))) (eT2 (eT2 eI eI) (eT2 eI eI)) (fun a : (Int × Int) × (Int × Int) × Unit => (a.1, a.2.1)) (fun a => [(eT2 eI eI).enc a.1, (eT2 eI eI).enc a.2.1]) (fun _ => (.cons (.cons .nil))) (fun _ => rfl)) (fun _ => rfl) (fun y1062 p1063 => (lx_var 8 cp_it rfl)) (fun _ _ _ => rfl) (fun q1069 vs1070 y1062 p1063 p1065 => (lx_var 7 cp_it rfl)) (fun _ _ _ _ _ _ => rfl) (fun q1069 vs1070 y1062 p1063 a1064 p1065 b1066 p1067 z1068 => by exact (lb_frz 4 (fz_ls (fz_ls fz_it)) rfl (lb_end (p1063.2.1.2.2, x963, z1068) (Sub.refl _)))))) (fun p1048 => (lb_frz 4 (fz_ls (fz_ls fz_it)) rfl (lb_set 4 nd (lx_if (lt_cmp (lc_eqI (lx_callI 0 (ok__law_take fa) (hr.mono (by decide)) fa.g__law_take fa.F__law_take.kp fa.b__law_take (fun _ => (.cons cp_it .nil)) rfl (la_cons lx_int (fun p1087 => la_nil)) (fun _ => rfl)) (fun p1089 => lx_int)) (nomark _)) (fun p1090 => (lx_slL lm_sh.w (lx_var 4 cp_it rfl) (fun p1091 => lx_int))) (fun p1090 => (lx_lc (envT := (fun t1093 : Unit => [.st (some v0) TSt stT p1090.1.2, .st none (List (List (Int × Int))) (it (eL (eL (eT2 eI eI)))) a_bounds, .st none PyData (it eD) a_told, .st none (List (Int × Int)) (ls (it (eT2 eI eI))) v_cells_910, .st none (List (List (Int × Int))) (it (eL (eL (eT2 eI eI)))) x963, .st none (List (List ((Int × Int) × (Int × Int)))) (ls (ls (it (eT2 (eT2 eI eI) (eT2 eI eI))))) y964, .un, .st none Int (it eI) x973, .st none Int (it eI) y974, .st none Int (it eI) v_kind_977, .un, .un])) rfl nd (blkOk_by (N := n__law_bent) (sc := defScope s__law_bent) (own := [("row", 6)]) (by decide +kernel)) (li_list lm_sh.w (lx_var 4 cp_it rfl)) (fun p1092 => ()) (fun p1092 => (Sub.refl _)) (by intro t i s hm he; simp at hm; subst hm; (have e := Option.some.inj he; exact e.symm)) (fun _ _ _ _ _ t1093 => (lg_name 6 nd)) (fun _ _ _ _ _ t1093 x1094 => ltl_nil) (fun _ _ _ _ _ t1093 x1094 p1095 => (lx_sh (fz_ls fz_it) (lx_slL lm_sh.w (lx_var 6 cp_it rfl) (fun p1096 => lx_int)))) (fun t1093 x1094 p1095 p1097 => ()) (fun t1093 x1094 p1095 p1097 => by exact (.keep (.keep (.keep (.keep (.keep (.keep (.drop (.keep (.keep (.keep (.keep (.keep Sub.nil))))))))))))) (fun t1093 x1094 p1095 => ()) (fun t1093 x1094 p1095 => by exact (.keep (.keep (.keep (.keep (.keep (.keep (.drop (.keep (.keep (.keep (.keep (.keep Sub.nil))))))))))))))) (fun p1090 _ => Sub.refl _) (fun p1090 _ => Sub.refl _)) (fun v_table_1101 p1102 => by exact (lb_frz 4 (fz_ls fz_it) rfl (lb_end (p1102.1.2, v_table_1101, y964) (Sub.refl _))))))) (fun j1049 => (lb_end (j1049.1, j1049.2.1, j1049.2.2) (Sub.refl _))))) (fun j1023 => (lb_end (j1023.1, j1023.2.1, j1023.2.2) (Sub.refl _))))) (fun j981 => (lb_ret (lx_tup (la_cons lx_str (fun p1105 => (la_cons (lx_var 4 cp_it rfl) (fun p1106 => (la_cons (lx_frz 5 (fz_ls (fz_ls fz_it)) rfl) (fun p1107 => la_nil)))))) eD (fun a : Str × (List (List (Int × Int))) × (List (List ((Int × Int) × (Int × Int)))) × Unit => PyData.tuple [eS.enc a.1, (eL (eL (eT2 eI eI))).enc a.2.1, (eL (eL (eT2 (eT2 eI eI) (eT2 eI eI)))).enc a.2.2.1]) (fun a => [eS.enc a.1, (eL (eL (eT2 eI eI))).enc a.2.1, (eL (eL (eT2 (eT2 eI eI) (eT2 eI eI)))).enc a.2.2.1]) (fun _ => (.cons (.cons (.cons .nil)))) (fun _ => rfl)) (fun p => j981.1) (fun p => (.keep (.drop (.drop (.drop (.drop (.drop (.keep (.drop (.drop (.drop (.keep (.keep Sub.nil))))))))))))))))))))))))))
    (by first | (unfold m__law_bent; dsimp only [id]; done) | (unfold m__law_bent; dsimp only [id]; rfl) | rfl)
abbrev n_law : List Str := ["script", "state", "bounds", "slope", "kept", "pair", "told", "k", "other", "same", "x", "y", "low", "high", "first", "cell", "last", "turn", "plate", "row", "value"]
theorem sc_law : FnScope n_law ["script"] (defScope s_law) := ⟨rfl, rfl, rfl, by decide +kernel, rfl, by decide +kernel, by decide +kernel⟩
abbrev sp_law (K : Fg) : Sp := spP K (fun a : List Int × Unit => [.st none (List Int) scr a.1]) (it eB) (fun a => m_law a.1)
set_option maxHeartbeats 0 in
theorem ok_law (fa : Fa K mg) : FnG P w K mg base 4 fa.f_law fa.fd_law ["script"] (sp_law K) := by
  refine fnPG fa.F_law sc_law 20 rfl (fun _ => rfl) fun cdv A' outer s H E hgd hr => ?_
  have nd := sc_law.nd
  have hu := hr.units
  have hu5 : (A'.deeper (envOfC "law" (defScope s_law) s.heap.objs.size fa.f_law cdv)).units + 65 < cLine := by have := hr.un; omega
  rintro ⟨a_script, _⟩
  exact lb_use (env := [.st none (List Int) scr a_script, .un, .un, .un, .un, .un, .un, .un, .un, .un, .un, .un, .un, .un, .un, .un, .un, .un, .un, .un, .un])
    (lb_set 1 nd (lx_call (ok__law_state fa) (hr.mono (by decide)) fa.g__law_state fa.F__law_state.kp fa.b__law_state (fun _ => (.cons cp_scr .nil)) (la_cons (lx_var 0 cp_scr rfl) (fun p1108 => la_nil))) (fun v_state_1110 p1111 => (lb_asg (lx_callI 1 (ok__law_table fa) (hr.mono (by decide)) fa.g__law_table fa.F__law_table.kp fa.b__law_table (fun _ => .nil) rfl la_nil (fun _ => rfl)) (fun p1114 => (lg_tup (E := (eT2 (eL (eL (eT2 eI eI))) eI)) (lgs_cons (lg_name 2 nd) (fun _ => (lgs_cons (lg_name 3 nd) (fun _ => lgs_nil)))) (fun x => (x.1, x.2, ())) (fun a : (List (List (Int × Int))) × Int × Unit => [(eL (eL (eT2 eI eI))).enc (a.1), eI.enc (a.2.1)]) (fun _ => (.cons (.cons .nil))) (fun _ => rfl) rfl (fun _ => rfl))) (fun x1113 p1114 => (lb_set 4 nd (lx_repr hgd hu dv_it fa.z_repr (lo_of (lx_var 2 cp_it rfl)) (fun _ => trivial)) (fun v_kept_1116 p1117 => (lb_set 5 nd (lx_call (ok__law_crossing fa) (hr.mono (by decide)) fa.g__law_crossing fa.F__law_crossing.kp fa.b__law_crossing (fun _ => (.cons cp_it (.cons cp_it .nil))) (la_cons (lx_var 2 cp_it rfl) (fun p1118 => (la_cons (lx_var 3 cp_it rfl) (fun p1119 => la_nil))))) (fun v_pair_1121 p1122 => (lb_set 6 nd (lx_call (ok_tighten fa) (hr.mono (by decide)) fa.g_tighten fa.F_tighten.kp fa.b_tighten (fun _ => (.cons cp_it (.cons cp_it .nil))) (la_cons (lx_var 2 cp_it rfl) (fun p1123 => (la_cons (lx_var 3 cp_it rfl) (fun p1124 => la_nil))))) (fun v_told_1126 p1127 => (lb_ifr (lt_cut (lt_w (lw_or (lt_not (lt_val (lx_isD fa.z_isinstance fa.z_tuple (lx_var 6 cp_it rfl)))) (fun p1128 => (lw_or (lt_cmp (lc_neS (lx_repr hgd hu dv_it fa.z_repr (lo_of (lx_var 2 cp_it rfl)) (fun _ => trivial)) (fun p1130 => (lx_var 4 cp_it rfl))) (nomark _)) (fun p1131 => (lw_or1 (lt_cmp (lc_notN (lx_call (ok__law_fault fa) (hr.mono (by decide)) fa.g__law_fault fa.F__law_fault.kp fa.b__law_fault (fun _ => (.cons cp_it (.cons cp_it (.cons cp_it .nil)))) (la_cons (lx_var 2 cp_it rfl) (fun p1132 => (la_cons (lx_var 3 cp_it rfl) (fun p1133 => (la_cons (lx_var 6 cp_it rfl) (fun p1134 => la_nil)))))))) (nomark _)))) (fun p1131 _ => Sub.refl _))) (fun p1128 _ => Sub.refl _))) (fun _ => rfl)) (fun p1137 => (lb_ret lx_bl (fun _ => ()) (fun p => (.drop (.drop (.drop (.drop (.drop (.drop (.drop (.keep (.keep (.keep (.keep (.keep (.keep (.keep (.keep (.keep (.keep (.keep (.keep (.keep (.keep Sub.nil)))))))))))))))))))))))) (fun p1137 => (lb_ifr (lt_cut (lt_w (lw_or (lt_cmp (lc_notN (lx_call (ok_tighten_fault fa) (hr.mono (by decide)) fa.g_tighten_fault fa.F_tighten_fault.kp fa.b_tighten_fault (fun _ => (.cons cp_it (.cons cp_it (.cons cp_it .nil)))) (la_cons (lx_var 2 cp_it rfl) (fun p1138 => (la_cons (lx_var 3 cp_it rfl) (fun p1139 => (la_cons (lx_var 6 cp_it rfl) (fun p1140 => la_nil)))))))) (nomark _)) (fun p1142 => (lw_or1 (lt_cmp (lc_neT hu dv_it dv_it dtB evB (lo_of (lx_cmp (lc_eqS (lx_dec (E' := eS) dcS (lx_ixD (lx_var 6 cp_it rfl) (fun p1146 => lx_int))) (fun p1145 => lx_str)) (nomark _))) (fun p1149 => (lo_of (lx_cmp (lc_notN (lx_var 5 cp_it rfl)) (nomark _)))) (fun _ _ => trivial) (fun _ _ => trivial)) (nomark _)))) (fun p1142 _ => Sub.refl _))) (fun _ => rfl)) (fun p1151 => (lb_ret lx_bl (fun _ => ()) (fun p => (.drop (.drop (.drop (.drop (.drop (.drop (.drop (.keep (.keep (.keep (.keep (.keep (.keep (.keep (.keep (.keep (.keep (.keep (.keep (.keep (.keep Sub.nil)))))))))))))))))))))))) (fun p1151 => (lb_ifr (lt_cut (lt_w (lw_and (lt_cmp (lc_notN (lx_var 5 cp_it rfl)) (nomark _)) (fun p1152 => (lw_and1 (lt_cmp (lc_neC hu dv_it dv_it (lo_of (lx_var 6 cp_it rfl)) (fun p1153 => (lo_of (lx_catT (E3 := (eT3 eS (eT2 eI eI) (eT2 eI eI))) (g := fun (x : (Str)) (y : ((Int × Int) × (Int × Int))) => (x, y.1, y.2)) ⟨fun _ _ => ⟨_, _, rfl, rfl, rfl, Nat.le_of_ble_eq_true rfl⟩⟩ (lx_tup (la_cons lx_str (fun p1154 => la_nil)) (eT1 eS) (fun a : Str × Unit => (a.1)) (fun a => [eS.enc a.1]) (fun _ => (.cons .nil)) (fun _ => rfl)) (fun p1155 => (lx_cast (E' := (eT2 (eT2 eI eI) (eT2 eI eI))) (lx_var 5 cp_it rfl) id (fun a b h => by have h : a = some b := h; subst h; rfl)))))) (fun _ _ => trivial) (fun _ _ => trivial)) (nomark _)))) (fun p1152 _ => Sub.refl _))) (fun _ => rfl)) (fun p1158 => (lb_ret lx_bl (fun _ => ()) (fun p => (.drop (.drop (.drop (.drop (.drop (.drop (.drop (.keep (.keep (.keep (.keep (.keep (.keep (.keep (.keep (.keep (.keep (.keep (.keep (.keep (.keep Sub.nil)))))))))))))))))))))))) (fun p1158 => (lb_for (envT := (fun t1160 : TSt => [.st none (List Int) scr a_script, .st none TSt stT t1160, .st none (List (List (Int × Int))) (it (eL (eL (eT2 eI eI)))) x1113.1, .st none Int (it eI) x1113.2, .st none Str (it eS) v_kept_1116, .st none (Option ((Int × Int) × (Int × Int))) (it (eO (eT2 (eT2 eI eI) (eT2 eI eI)) (fun _ h => by cases h))) v_pair_1121, .st none PyData (it eD) v_told_1126, .un, .un, .un, .un, .un, .un, .un, .un, .un, .un, .un, .un, .un, .un])) PassesOwn.never rfl (li_range1 (by rfl) fa.z_range lx_int) (fun p1159 => p1114.2) (fun p1159 => (Sub.refl _)) (fun t1160 => (lg_name 7 nd)) (fun x1161 t1160 kc1162 kb1163 => (lb_set 8 nd (lx_callI 1 (ok__law_bent fa) (hr.mono (by decide)) fa.g__law_bent fa.F__law_bent.kp fa.b__law_bent (fun _ => (.cons cp_it (.cons cp_it .nil))) rfl (la_cons (lx_var 2 cp_it rfl) (fun p1164 => (la_cons (lx_var 6 cp_it rfl) (fun p1165 => la_nil)))) (fun _ => rfl)) (fun v_other_1167 p1168 => (lb_set 9 nd (lx_repr hgd hu dv_it fa.z_repr (lo_of (lx_var 8 cp_it rfl)) (fun _ => trivial)) (fun v_same_1170 p1171 => (lb_ifr (lt_cut (lt_w (lw_or (lt_cmp (lc_neC hu dv_it dv_it (lo_of (lx_call (ok_tighten_fault fa) (hr.mono (by decide)) fa.g_tighten_fault fa.F_tighten_fault.kp fa.b_tighten_fault (fun _ => (.cons cp_it (.cons cp_it (.cons cp_it .nil)))) (la_cons (lx_var 2 cp_it rfl) (fun p1172 => (la_cons (lx_var 3 cp_it rfl) (fun p1173 => (la_cons (lx_var 8 cp_it rfl) (fun p1174 => la_nil)))))))) (fun p1176 => (lo_of (lx_call (ok__law_fault fa) (hr.mono (by decide)) fa.g__law_fault fa.F__law_fault.kp fa.b__law_fault (fun _ => (.cons cp_it (.cons cp_it (.cons cp_it .nil)))) (la_cons (lx_var 2 cp_it rfl) (fun p1177 => (la_cons (lx_var 3 cp_it rfl) (fun p1178 => (la_cons (lx_var 8 cp_it rfl) (fun p1179 => la_nil))))))))) (fun _ _ => trivial) (fun _ _ => trivial)) (nomark _)) (fun p1181 => (lw_or1 (lt_cmp (lc_neS (lx_repr hgd hu dv_it fa.z_repr (lo_of (lx_var 8 cp_it rfl)) (fun _ => trivial)) (fun p1183 => (lx_var 9 cp_it rfl))) (nomark _)))) (fun p1181 _ => Sub.refl _))) (fun _ => rfl)) (fun p1185 => (lb_ret lx_bl (fun _ => ()) (fun p => (.drop (.drop (.drop (.drop (.drop (.drop (.drop (.drop (.drop (.drop (.keep (.keep (.keep (.keep (.keep (.keep (.keep (.keep (.keep (.keep (.keep Sub.nil)))))))))))))))))))))))) (fun p1185 => (lb_end p1168.2 (.keep (.keep (.keep (.keep (.keep (.keep (.keep (.drop (.drop (.drop (.keep (.keep (.keep (.keep (.keep (.keep (.keep (.keep (.keep (.keep (.keep Sub.nil))))))))))))))))))))))))))))) (fun t1187 => (lb_ifr (lt_cmp (lc_notN (lx_var 5 cp_it rfl)) (nomark _)) (fun p1188 => (lb_ret lx_bl (fun _ => ()) (fun p => (.drop (.drop (.drop (.drop (.drop (.drop (.drop (.keep (.keep (.keep (.keep (.keep (.keep (.keep (.keep (.keep (.keep (.keep (.keep (.keep (.keep Sub.nil)))))))))))))))))))))))) (fun p1188 => (lb_for (envT := (fun t1192 : Unit => [.st none (List Int) scr a_script, .st none TSt stT t1187, .st none (List (List (Int × Int))) (it (eL (eL (eT2 eI eI)))) x1113.1, .st none Int (it eI) x1113.2, .st none Str (it eS) v_kept_1116, .st none (Option ((Int × Int) × (Int × Int))) (it (eO (eT2 (eT2 eI eI) (eT2 eI eI)) (fun _ h => by cases h))) v_pair_1121, .st none PyData (it eD) v_told_1126, .un, .un, .un, .un, .un, .un, .un, .un, .un, .un, .un, .un, .un, .un])) PassesOwn.never rfl (li_list lm_sh.w (lx_callLS (ok__law_cells fa) (hr.mono (by decide)) fa.g__law_cells fa.F__law_cells.kp fa.b__law_cells (fun _ => .nil) (la_cons (lx_var 2 cp_it rfl) (fun p1190 => la_nil)))) (fun p1191 => ()) (fun p1191 => (Sub.refl _)) (fun t1192 => (lg_tup (E := (eT2 eI eI)) (lgs_cons (lg_name 10 nd) (fun _ => (lgs_cons (lg_name 11 nd) (fun _ => lgs_nil)))) (fun x => (x.1, x.2, ())) (fun a : Int × Int × Unit => [eI.enc (a.1), eI.enc (a.2.1)]) (fun _ => (.cons (.cons .nil))) (fun _ => rfl) rfl (fun _ => rfl))) (fun x1193 t1192 kc1194 kb1195 => (lb_asg (lx_tup (la_cons (lx_callLS (ok__law_least fa) (hr.mono (by decide)) fa.g__law_least fa.F__law_least.kp fa.b__law_least (fun _ => (.cons cp_it (.cons cp_it .nil))) (la_cons (lx_var 2 cp_it rfl) (fun p1197 => (la_cons (lx_var 3 cp_it rfl) (fun p1198 => (la_cons (lx_tup (la_cons (lx_var 10 cp_it rfl) (fun p1199 => (la_cons (lx_var 11 cp_it rfl) (fun p1200 => la_nil)))) (eT2 eI eI) (fun a : Int × Int × Unit => (a.1, a.2.1)) (fun a => [eI.enc a.1, eI.enc a.2.1]) (fun _ => (.cons (.cons .nil))) (fun _ => rfl)) (fun p1201 => la_nil))))))) (fun p1202 => (la_cons (lx_callLS (ok__law_most fa) (hr.mono (by decide)) fa.g__law_most fa.F__law_most.kp fa.b__law_most (fun _ => (.cons cp_it (.cons cp_it .nil))) (la_cons (lx_var 2 cp_it rfl) (fun p1204 => (la_cons (lx_var 3 cp_it rfl) (fun p1205 => (la_cons (lx_tup (la_cons (lx_var 10 cp_it rfl) (fun p1206 => (la_cons (lx_var 11 cp_it rfl) (fun p1207 => la_nil)))) (eT2 eI eI) (fun a : Int × Int × Unit => (a.1, a.2.1)) (fun a => [eI.enc a.1, eI.enc a.2.1]) (fun _ => (.cons (.cons .nil))) (fun _ => rfl)) (fun p1208 => la_nil))))))) (fun p1209 => la_nil)))) (eT2 eI eI) (fun a : Int × Int × Unit => (a.1, a.2.1)) (fun a => [eI.enc a.1, eI.enc a.2.1]) (fun _ => (.cons (.cons .nil))) (fun _ => rfl)) (fun p1211 => (lg_tup (E := (eT2 eI eI)) (lgs_cons (lg_name 12 nd) (fun _ => (lgs_cons (lg_name 13 nd) (fun _ => lgs_nil)))) (fun x => (x.1, x.2, ())) (fun a : Int × Int × Unit => [eI.enc (a.1), eI.enc (a.2.1)]) (fun _ => (.cons (.cons .nil))) (fun _ => rfl) rfl (fun _ => rfl))) (fun x1210 p1211 => (lb_set 14 nd (lx_ix lm_ow.w (lo_of (lx_lc (envT := (fun t1215 : Unit => [.st none (List Int) scr a_script, .st none TSt stT t1187, .st none (List (List (Int × Int))) (it (eL (eL (eT2 eI eI)))) x1113.1, .st none Int (it eI) x1113.2, .st none Str (it eS) v_kept_1116, .st none (Option ((Int × Int) × (Int × Int))) (it (eO (eT2 (eT2 eI eI) (eT2 eI eI)) (fun _ h => by cases h))) v_pair_1121, .st none PyData (it eD) v_told_1126, .un, .un, .un, .st none Int (it eI) x1193.1, .st none Int (it eI) x1193.2, .st none Int (it eI) x1210.1, .st none Int (it eI) x1210.2, .un, .un, .un, .un, .un, .un, .un])) rfl nd (blkOk_by (N := n_law) (sc := defScope s_law) (own := [("cell", 15)]) (by decide +kernel)) (li_list lm_sh.w (lx_callLS (ok__law_cells fa) (hr.mono (by decide)) fa.g__law_cells fa.F__law_cells.kp fa.b__law_cells (fun _ => .nil) (la_cons (lx_var 2 cp_it rfl) (fun p1213 => la_nil)))) (fun p1214 => ()) (fun p1214 => (Sub.refl _)) (by intro t i s hm he; simp at hm; subst hm; (have e := Option.some.inj he; exact e.symm)) (fun _ _ _ _ _ t1215 => (lg_name 15 nd)) (fun _ _ _ _ _ t1215 x1216 => (ltl_one (lt_cmp (lc_eqI (lx_sub (lx_part part2_0 (lx_ix lm_sh.w (lo_of (lx_ix lm_sh.w (lo_of (lx_var 2 cp_it rfl)) (fun p1217 => (lx_part part2_1 (lx_var 15 cp_it rfl))) (fun _ _ => trivial))) (fun p1219 => (lx_part part2_0 (lx_var 15 cp_it rfl))) (fun _ _ => trivial))) (fun p1221 => (lx_mul (lx_var 3 cp_it rfl) (fun p1222 => (lx_call (ok__law_steps fa) (hr.mono (by decide)) fa.g__law_steps fa.F__law_steps.kp fa.b__law_steps (fun _ => (.cons cp_it (.cons cp_it .nil))) (la_cons (lx_tup (la_cons (lx_var 10 cp_it rfl) (fun p1223 => (la_cons (lx_var 11 cp_it rfl) (fun p1224 => la_nil)))) (eT2 eI eI) (fun a : Int × Int × Unit => (a.1, a.2.1)) (fun a => [eI.enc a.1, eI.enc a.2.1]) (fun _ => (.cons (.cons .nil))) (fun _ => rfl)) (fun p1225 => (la_cons (lx_var 15 cp_it rfl) (fun p1226 => la_nil))))))))) (fun p1228 => (lx_var 12 cp_it rfl))) (nomark _)))) (fun _ _ _ _ _ t1215 x1216 p1229 => (lx_var 15 cp_it rfl)) (fun t1215 x1216 p1229 p1230 => ()) (fun t1215 x1216 p1229 p1230 => by exact (.keep (.keep (.keep (.keep (.keep (.keep (.keep (.keep (.keep (.keep (.keep (.keep (.keep (.keep (.keep (.drop (.keep (.keep (.keep (.keep (.keep Sub.nil)))))))))))))))))))))) (fun t1215 x1216 p1229 => ()) (fun t1215 x1216 p1229 => by exact (.keep (.keep (.keep (.keep (.keep (.keep (.keep (.keep (.keep (.keep (.keep (.keep (.keep (.keep (.keep (.drop (.keep (.keep (.keep (.keep (.keep Sub.nil)))))))))))))))))))))))) (fun p1234 => lx_int) (fun _ _ => trivial)) (fun v_first_1236 p1237 => by exact (lb_set 16 nd (lx_ix lm_ow.w (lo_of (lx_lc (envT := (fun t1241 : Unit => [.st none (List Int) scr a_script, .st none TSt stT t1187, .st none (List (List (Int × Int))) (it (eL (eL (eT2 eI eI)))) x1113.1, .st none Int (it eI) x1113.2, .st none Str (it eS) v_kept_1116, .st none (Option ((Int × Int) × (Int × Int))) (it (eO (eT2 (eT2 eI eI) (eT2 eI eI)) (fun _ h => by cases h))) v_pair_1121, .st none PyData (it eD) v_told_1126, .un, .un, .un, .st none Int (it eI) x1193.1, .st none Int (it eI) x1193.2, .st none Int (it eI) x1210.1, .st none Int (it eI) x1210.2, .st none (Int × Int) (it (eT2 eI eI)) v_first_1236, .un, .un, .un, .un, .un, .un])) rfl nd (blkOk_by (N := n_law) (sc := defScope s_law) (own := [("cell", 15)]) (by decide +kernel)) (li_list lm_sh.w (lx_callLS (ok__law_cells fa) (hr.mono (by decide)) fa.g__law_cells fa.F__law_cells.kp fa.b__law_cells (fun _ => .nil) (la_cons (lx_var 2 cp_it rfl) (fun p1239 => la_nil)))) (fun p1240 => ()) (fun p1240 => (Sub.refl _)) (by intro t i s hm he; simp at hm; subst hm; (have e := Option.some.inj he; exact e.symm)) (fun _ _ _ _ _ t1241 => (lg_name 15 nd)) (fun _ _ _ _ _ t1241 x1242 => (ltl_one (lt_cmp (lc_eqI (lx_add (lx_part part2_1 (lx_ix lm_sh.w (lo_of (lx_ix lm_sh.w (lo_of (lx_var 2 cp_it rfl)) (fun p1247 => (lx_part part2_1 (lx_var 15 cp_it rfl))) (fun _ _ => trivial))) (fun p1249 => (lx_part part2_0 (lx_var 15 cp_it rfl))) (fun _ _ => trivial))) (fun p1251 => (lx_mul (lx_var 3 cp_it rfl) (fun p1252 => (lx_call (ok__law_steps fa) (hr.mono (by decide)) fa.g__law_steps fa.F__law_steps.kp fa.b__law_steps (fun _ => (.cons cp_it (.cons cp_it .nil))) (la_cons (lx_tup (la_cons (lx_var 10 cp_it rfl) (fun p1253 => (la_cons (lx_var 11 cp_it rfl) (fun p1254 => la_nil)))) (eT2 eI eI) (fun a : Int × Int × Unit => (a.1, a.2.1)) (fun a => [eI.enc a.1, eI.enc a.2.1]) (fun _ => (.cons (.cons .nil))) (fun _ => rfl)) (fun p1255 => (la_cons (lx_var 15 cp_it rfl) (fun p1256 => la_nil))))))))) (fun p1258 => (lx_var 13 cp_it rfl))) (nomark _)))) (fun _ _ _ _ _ t1241 x1242 p1259 => (lx_var 15 cp_it rfl)) (fun t1241 x1242 p1259 p1260 => ()) (fun t1241 x1242 p1259 p1260 => by exact (.keep (.keep (.keep (.keep (.keep (.keep (.keep (.keep (.keep (.keep (.keep (.keep (.keep (.keep (.keep (.drop (.keep (.keep (.keep (.keep (.keep Sub.nil)))))))))))))))))))))) (fun t1241 x1242 p1259 => ()) (fun t1241 x1242 p1259 => by exact (.keep (.keep (.keep (.keep (.keep (.keep (.keep (.keep (.keep (.keep (.keep (.keep (.keep (.keep (.keep (.drop (.keep (.keep (.keep (.keep (.keep Sub.nil)))))))))))))))))))))))) (fun p1264 => lx_int) (fun _ _ => trivial)) (fun v_last_1266 p1267 => by exact (lb_ifr (lt_cut (lt_w (lw_or (lt_cmp (lc_neC hu dv_it dv_it (lo_of (lx_ixD (lx_ixD (lx_ixD (lx_var 6 cp_it rfl) (fun p1268 => lx_int)) (fun p1270 => (lx_var 11 cp_it rfl))) (fun p1272 => (lx_var 10 cp_it rfl)))) (fun p1274 => (lo_of (lx_tup (la_cons (lx_var 12 cp_it rfl) (fun p1275 => (la_cons (lx_var 13 cp_it rfl) (fun p1276 => la_nil)))) eD (fun a : Int × Int × Unit => PyData.tuple [eI.enc a.1, eI.enc a.2.1]) (fun a => [eI.enc a.1, eI.enc a.2.1]) (fun _ => (.cons (.cons .nil))) (fun _ => rfl)))) (fun _ _ => trivial) (fun _ _ => trivial)) (nomark _)) (fun p1277 => (lw_or1 (lt_cmp (lc_neC hu dv_it dv_it (lo_of (lx_ixD (lx_ixD (lx_ixD (lx_var 6 cp_it rfl) (fun p1278 => lx_int)) (fun p1280 => (lx_var 11 cp_it rfl))) (fun p1282 => (lx_var 10 cp_it rfl)))) (fun p1284 => (lo_of (lx_tup (la_cons (lx_var 14 cp_it rfl) (fun p1285 => (la_cons (lx_var 16 cp_it rfl) (fun p1286 => la_nil)))) eD (fun a : (Int × Int) × (Int × Int) × Unit => PyData.tuple [(eT2 eI eI).enc a.1, (eT2 eI eI).enc a.2.1]) (fun a => [(eT2 eI eI).enc a.1, (eT2 eI eI).enc a.2.1]) (fun _ => (.cons (.cons .nil))) (fun _ => rfl)))) (fun _ _ => trivial) (fun _ _ => trivial)) (nomark _)))) (fun p1277 _ => Sub.refl _))) (fun _ => rfl)) (fun p1288 => (lb_ret lx_bl (fun _ => ()) (fun p => (.drop (.drop (.drop (.drop (.drop (.drop (.drop (.keep (.keep (.keep (.drop (.drop (.drop (.drop (.drop (.keep (.drop (.keep (.keep (.keep (.keep Sub.nil)))))))))))))))))))))))) (fun p1288 => (lb_end () (.keep (.keep (.keep (.keep (.keep (.keep (.keep (.keep (.keep (.keep (.drop (.drop (.drop (.drop (.drop (.keep (.drop (.keep (.keep (.keep (.keep Sub.nil))))))))))))))))))))))))))))))) (fun t1290 => (lb_for (envT := (fun t1292 : TSt => [.st none (List Int) scr a_script, .st none TSt stT t1292, .st none (List (List (Int × Int))) (it (eL (eL (eT2 eI eI)))) x1113.1, .st none Int (it eI) x1113.2, .st none Str (it eS) v_kept_1116, .st none (Option ((Int × Int) × (Int × Int))) (it (eO (eT2 (eT2 eI eI) (eT2 eI eI)) (fun _ h => by cases h))) v_pair_1121, .st none PyData (it eD) v_told_1126, .un, .un, .un, .un, .un, .un, .un, .un, .un, .un, .un, .un, .un, .un])) PassesOwn.never rfl (li_range1 (by rfl) fa.z_range lx_int) (fun p1291 => t1187) (fun p1291 => (Sub.refl _)) (fun t1292 => (lg_name 17 nd)) (fun x1293 t1292 kc1294 kb1295 => (lb_setLc (envT := (fun t1297 : Unit => [.st none (List Int) scr a_script, .st none TSt stT t1292, .st none (List (List (Int × Int))) (it (eL (eL (eT2 eI eI)))) x1113.1, .st none Int (it eI) x1113.2, .st none Str (it eS) v_kept_1116, .st none (Option ((Int × Int) × (Int × Int))) (it (eO (eT2 (eT2 eI eI) (eT2 eI eI)) (fun _ h => by cases h))) v_pair_1121, .st none PyData (it eD) v_told_1126, .un, .un, .un, .un, .un, .un, .un, .un, .un, .un, .st none Int (it eI) x1293, .un, .un, .un])) rfl nd (blkOk_by (N := n_law) (sc := defScope s_law) (own := [("row", 19)]) (by decide +kernel)) 18 (li_list lm_sh.w (lx_var 2 cp_it rfl)) (fun p1296 => ()) (fun p1296 => (Sub.refl _)) (by intro t i s hm he; simp at hm; subst hm; (have e := Option.some.inj he; exact e.symm)) (fun _ _ _ _ _ t1297 => (lg_name 19 nd)) (fun _ _ _ _ _ t1297 x1298 => ltl_nil) (fun _ _ _ _ _ t1297 x1298 p1299 => (lx_listof lm_sh.w fa.z_list (lo_of (lx_var 19 cp_it rfl)) (fun _ => trivial))) (fun t1297 x1298 p1299 p1300 => ()) (fun t1297 x1298 p1299 p1300 => by exact (.keep (.keep (.keep (.keep (.keep (.keep (.keep (.keep (.keep (.keep (.keep (.keep (.keep (.keep (.keep (.keep (.keep (.keep (.keep (.drop (.keep Sub.nil)))))))))))))))))))))) (fun t1297 x1298 p1299 => ()) (fun t1297 x1298 p1299 => by exact (.keep (.keep (.keep (.keep (.keep (.keep (.keep (.keep (.keep (.keep (.keep (.keep (.keep (.keep (.keep (.keep (.keep (.keep (.keep (.drop (.keep Sub.nil)))))))))))))))))))))) (fun v_plate_1304 p1305 => (lb_for (envT := (fun t1309 : (TSt × (List (List (Int × Int)))) => [.st none (List Int) scr a_script, .st none TSt stT t1309.1, .st none (List (List (Int × Int))) (it (eL (eL (eT2 eI eI)))) x1113.1, .st none Int (it eI) x1113.2, .st none Str (it eS) v_kept_1116, .st none (Option ((Int × Int) × (Int × Int))) (it (eO (eT2 (eT2 eI eI) (eT2 eI eI)) (fun _ h => by cases h))) v_pair_1121, .st none PyData (it eD) v_told_1126, .un, .un, .un, .un, .un, .un, .un, .un, .un, .un, .st none Int (it eI) x1293, .st none (List (List (Int × Int))) (ls (ls (it (eT2 eI eI)))) t1309.2, .un, .un])) PassesOwn.never rfl (li_list lm_sh.w (lx_callLS (ok__law_cells fa) (hr.mono (by decide)) fa.g__law_cells fa.F__law_cells.kp fa.b__law_cells (fun _ => .nil) (la_cons (lx_var 2 cp_it rfl) (fun p1307 => la_nil)))) (fun p1308 => (t1292, v_plate_1304)) (fun p1308 => (Sub.refl _)) (fun t1309 => (lg_tup (E := (eT2 eI eI)) (lgs_cons (lg_name 10 nd) (fun _ => (lgs_cons (lg_name 11 nd) (fun _ => lgs_nil)))) (fun x => (x.1, x.2, ())) (fun a : Int × Int × Unit => [eI.enc (a.1), eI.enc (a.2.1)]) (fun _ => (.cons (.cons .nil))) (fun _ => rfl) rfl (fun _ => rfl))) (fun x1310 t1309 kc1311 kb1312 => (lb_asg (lx_tup (la_cons (lx_callL 18 (ok__law_least fa) (hr.mono (by decide)) fa.g__law_least fa.F__law_least.kp fa.b__law_least (fun _ => (.cons cp_it (.cons cp_it .nil))) rfl (la_cons (lx_var 3 cp_it rfl) (fun p1314 => (la_cons (lx_tup (la_cons (lx_var 10 cp_it rfl) (fun p1315 => (la_cons (lx_var 11 cp_it rfl) (fun p1316 => la_nil)))) (eT2 eI eI) (fun a : Int × Int × Unit => (a.1, a.2.1)) (fun a => [eI.enc a.1, eI.enc a.2.1]) (fun _ => (.cons (.cons .nil))) (fun _ => rfl)) (fun p1317 => la_nil)))) (fun _ => rfl)) (fun p1318 => (la_cons (lx_callL 18 (ok__law_most fa) (hr.mono (by decide)) fa.g__law_most fa.F__law_most.kp fa.b__law_most (fun _ => (.cons cp_it (.cons cp_it .nil))) rfl (la_cons (lx_var 3 cp_it rfl) (fun p1320 => (la_cons (lx_tup (la_cons (lx_var 10 cp_it rfl) (fun p1321 => (la_cons (lx_var 11 cp_it rfl) (fun p1322 => la_nil)))) (eT2 eI eI) (fun a : Int × Int × Unit => (a.1, a.2.1)) (fun a => [eI.enc a.1, eI.enc a.2.1]) (fun _ => (.cons (.cons .nil))) (fun _ => rfl)) (fun p1323 => la_nil)))) (fun _ => rfl)) (fun p1324 => la_nil)))) (eT2 eI eI) (fun a : Int × Int × Unit => (a.1, a.2.1)) (fun a => [eI.enc a.1, eI.enc a.2.1]) (fun _ => (.cons (.cons .nil))) (fun _ => rfl)) (fun p1326 => (lg_tup (E := (eT2 eI eI)) (lgs_cons (lg_name 12 nd) (fun _ => (lgs_cons (lg_name 13 nd) (fun _ => lgs_nil)))) (fun x => (x.1, x.2, ())) (fun a : Int × Int × Unit => [eI.enc (a.1), eI.enc (a.2.1)]) (fun _ => (.cons (.cons .nil))) (fun _ => rfl) rfl (fun _ => rfl))) (fun x1325 p1326 => (lb_ifr (lt_cmp (lc_gt (lx_var 12 cp_it rfl) (fun p1327 => (lx_var 13 cp_it rfl))) (nomark _)) (fun p1328 => (lb_ret lx_bl (fun _ => ()) (fun p => (.drop (.drop (.drop (.drop (.drop (.drop (.drop (.keep (.keep (.keep (.drop (.drop (.drop (.drop (.keep (.keep (.keep (.drop (.drop (.keep (.keep Sub.nil)))))))))))))))))))))))) (fun p1328 => (lb_set 20 nd (lx_ix lm_ow.w (lo_of (lx_list (la_cons (lx_var 12 cp_it rfl) (fun p1329 => (la_cons (lx_var 13 cp_it rfl) (fun p1330 => (la_cons (lx_add (lx_var 12 cp_it rfl) (fun p1331 => (lx_callI 1 (ok__law_take fa) (hr.mono (by decide)) fa.g__law_take fa.F__law_take.kp fa.b__law_take (fun _ => (.cons cp_it .nil)) rfl (la_cons (lx_add (lx_sub (lx_var 13 cp_it rfl) (fun p1333 => (lx_var 12 cp_it rfl))) (fun p1334 => lx_int)) (fun p1335 => la_nil)) (fun _ => rfl)))) (fun p1337 => la_nil)))))) eI (fun a : Int × Int × Int × Unit => [a.1, a.2.1, a.2.2.1]) (fun _ => (.cons (.cons (.cons .nil)))))) (fun p1338 => (lx_var 17 cp_it rfl)) (fun _ _ => trivial)) (fun v_value_1340 p1341 => (lb_setIx2 (E := (eT2 eI eI)) (w := none) 18 (lx_tup (la_cons (lx_var 20 cp_it rfl) (fun p1342 => (la_cons (lx_var 20 cp_it rfl) (fun p1343 => la_nil)))) (eT2 eI eI) (fun a : Int × Int × Unit => (a.1, a.2.1)) (fun a => [eI.enc a.1, eI.enc a.2.1]) (fun _ => (.cons (.cons .nil))) (fun _ => rfl)) (fun _ => rfl) (fun y1344 p1345 => (lx_var 11 cp_it rfl)) (fun _ _ _ => rfl) (fun q1351 vs1352 y1344 p1345 p1347 => (lx_var 10 cp_it rfl)) (fun _ _ _ _ _ _ => rfl) (fun q1351 vs1352 y1344 p1345 a1346 p1347 b1348 p1349 z1350 => by exact (lb_ifr (lt_not (lt_cut (lt_chain coLe coLe (lx_dec (E' := eI) dcI (lx_ixD (lx_ixD (lx_ixD (lx_ixD (lx_var 6 cp_it rfl) (fun p1355 => lx_int)) (fun p1357 => (lx_var 11 cp_it rfl))) (fun p1359 => (lx_var 10 cp_it rfl))) (fun p1361 => lx_int))) (fun p1364 => (lx_var 20 cp_it rfl)) (fun p1364 p1365 => (lx_dec (E' := eI) dcI (lx_ixD (lx_ixD (lx_ixD (lx_ixD (lx_var 6 cp_it rfl) (fun p1366 => lx_int)) (fun p1368 => (lx_var 11 cp_it rfl))) (fun p1370 => (lx_var 10 cp_it rfl))) (fun p1372 => lx_int)))) (fun p1364 p1365 p1375 => Sub.refl _)) (fun _ => rfl))) (fun p1377 => (lb_ret lx_bl (fun _ => ()) (fun p => (.drop (.drop (.drop (.drop (.drop (.drop (.drop (.keep (.keep (.keep (.drop (.drop (.drop (.drop (.keep (.keep (.keep (.drop (.drop (.keep (.drop Sub.nil)))))))))))))))))))))))) (fun p1377 => (lb_end (p1341.1.2.2.1.2.2, z1350) (.keep (.keep (.keep (.keep (.keep (.keep (.keep (.keep (.keep (.keep (.drop (.drop (.drop (.drop (.keep (.keep (.keep (.keep (.keep (.keep (.drop Sub.nil))))))))))))))))))))))))))))))))) (fun t1379 => (lb_end t1379.1 (.keep (.keep (.keep (.keep (.keep (.keep (.keep (.keep (.keep (.keep (.keep (.keep (.keep (.keep (.keep (.keep (.keep (.drop (.drop (.keep (.keep Sub.nil))))))))))))))))))))))))) (sw_true rfl rfl rfl (by decide +kernel)))) (fun t1381 => (lb_ret (lx_cmp (lc_eqS (lx_repr hgd hu dv_it fa.z_repr (lo_of (lx_var 2 cp_it rfl)) (fun _ => trivial)) (fun p1383 => (lx_var 4 cp_it rfl))) (nomark _)) (fun _ => ()) (fun p => (.drop (.drop (.drop (.drop (.drop (.drop (.drop (.keep (.keep (.keep (.keep (.keep (.keep (.keep (.keep (.keep (.keep (.keep (.keep (.keep (.keep Sub.nil)))))))))))))))))))))))))))))))))))))))))))))))
    (by first | (unfold m_law; dsimp only [id]; done) | (unfold m_law; dsimp only [id]; rfl) | rfl)
end
/-! ### k50: tables, cells -/
abbrev Cl := Int × Int
structure Rc {α : Type} (T : List (List α)) (w h : Nat) : Prop where
  lh : T.length = h
  lw : ∀ r ∈ T, r.length = w
def gt {α : Type} (d : α) (T : List (List α)) (c : Cl) : α := (T.getD c.2.toNat []).getD c.1.toNat d
def Ins (w h : Nat) (c : Cl) : Prop := 0 ≤ c.1 ∧ c.1 < w ∧ 0 ≤ c.2 ∧ c.2 < h
instance (w h : Nat) (c : Cl) : Decidable (Ins w h c) := inferInstanceAs (Decidable (_ ∧ _))
theorem Rc.row {α : Type} {T : List (List α)} {w h : Nat} (r : Rc T w h) {y : Int} (h0 : 0 ≤ y) (h1 : y < h) : atI T y = some (T.getD y.toNat []) ∧ (T.getD y.toNat []).length = w := by
  obtain ⟨n, rfl⟩ := Int.eq_ofNat_of_zero_le h0
  have hn : n < T.length := by have := r.lh; omega
  have e : T.getD (n : Int).toNat [] = T[n] := by
    rw [List.getD_eq_getElem?_getD, Int.toNat_natCast, List.getElem?_eq_getElem hn]; rfl
  rw [e]
  exact ⟨Z.atI_nat hn, r.lw _ (List.getElem_mem hn)⟩
theorem at_getD {α : Type} {xs : List α} {x : Int} (d : α) (h0 : 0 ≤ x) (h1 : x < xs.length) : atI xs x = some (xs.getD x.toNat d) := by
  obtain ⟨n, rfl⟩ := Int.eq_ofNat_of_zero_le h0
  have hn : n < xs.length := by omega
  rw [Z.atI_nat hn, List.getD_eq_getElem?_getD, Int.toNat_natCast, List.getElem?_eq_getElem hn]; rfl
theorem Rc.at {α : Type} {T : List (List α)} {w h : Nat} (r : Rc T w h) (d : α) {c : Cl} (i : Ins w h c) {Ω : Type} (K : α → Option Ω) : ((atI T c.2).bind fun y => (atI y c.1).bind fun z => K z) = K (gt d T c) := by
  obtain ⟨h0, h1, h2, h3⟩ := i
  obtain ⟨e, l⟩ := r.row h2 h3
  rw [e, Option.bind_some, at_getD d h0 (by omega), Option.bind_some]
  rfl
theorem Rc.map {α β : Type} {T : List (List α)} {w h : Nat} (r : Rc T w h) (f : α → β) : Rc (T.map (List.map f)) w h := ⟨by rw [List.length_map, r.lh], fun q m => by
  obtain ⟨a, ma, rfl⟩ := List.mem_map.1 m
  rw [List.length_map, r.lw a ma]⟩
theorem gt_map {α β : Type} (f : α → β) (d : α) (T : List (List α)) (c : Cl) : gt (f d) (T.map (List.map f)) c = f (gt d T c) := by
  unfold gt
  simp only [List.getD_eq_getElem?_getD, List.getElem?_map]
  cases T[c.2.toNat]? with
  | none => simp
  | some q =>
    simp only [Option.map_some, Option.getD_some, List.getElem?_map]
    cases q[c.1.toNat]? <;> rfl
theorem at_ok {α : Type} (d : α) (f : α → PyData) {T : List (List α)} {w h : Nat} (r : Rc T w h) {c : Cl} (i : Ins w h c) : m_at (T.map (List.map f)) c = some (f (gt d T c)) := by
  rw [← gt_map f d T c]
  exact (r.map f).at (f d) i _
abbrev e2 : Enc (Int × Int) := eT2 eI eI
theorem at_lo {Ω : Type} {T : List (List Cl)} {w h : Nat} (r : Rc T w h) {c : Cl} (i : Ins w h c) (K : Int → Option Ω) : ((m_at (T.map (List.map (eT2 eI eI).enc)) c).bind fun r => (partD r (0 : Int)).bind fun y => (deI y).bind fun z => K z) = K (gt (0, 0) T c).1 := by
  rw [at_ok (0, 0) _ r i, Option.bind_some]; rfl
theorem at_hi {Ω : Type} {T : List (List Cl)} {w h : Nat} (r : Rc T w h) {c : Cl} (i : Ins w h c) (K : Int → Option Ω) : ((m_at (T.map (List.map (eT2 eI eI).enc)) c).bind fun r => (partD r (1 : Int)).bind fun y => (deI y).bind fun z => K z) = K (gt (0, 0) T c).2 := by
  rw [at_ok (0, 0) _ r i, Option.bind_some]; rfl
theorem Rc.atx {α : Type} {T : List (List α)} {w h : Nat} (r : Rc T w h) (d : α) {c : Cl} (i : Ins w h c) {Ω : Type} (K : α → Option Ω) : ((ixN T.length c.2).bind fun n => (atI (T.getD n []) c.1).bind fun z => K z) = K (gt d T c) := by
  obtain ⟨h0, h1, h2, h3⟩ := i
  obtain ⟨x, y⟩ := c
  dsimp only at h0 h1 h2 h3 ⊢
  obtain ⟨n, rfl⟩ := Int.eq_ofNat_of_zero_le h2
  have hn : n < T.length := by have := r.lh; omega
  rw [ixN_nat hn, Option.bind_some]
  have e : T.getD n [] = T[n] := by rw [List.getD_eq_getElem?_getD, List.getElem?_eq_getElem hn]; rfl
  rw [e, at_getD d h0 (by rw [r.lw _ (List.getElem_mem hn)]; exact h1), Option.bind_some]
  unfold gt
  dsimp only
  rw [Int.toNat_natCast, e]
def cellsL (w h : Nat) : List Cl := (rangeL 0 (w : Int)).flatMap fun x => (rangeL 0 (h : Int)).map fun y => (x, y)
theorem mem_cells {w h : Nat} {c : Cl} : c ∈ cellsL w h ↔ Ins w h c := by
  unfold cellsL Ins
  rw [List.mem_flatMap]
  constructor
  · rintro ⟨x, mx, m⟩
    obtain ⟨y, my, rfl⟩ := List.mem_map.1 m
    have a := mem_rng.1 mx
    have b := mem_rng.1 my
    exact ⟨a.1, a.2, b.1, b.2⟩
  · intro m
    exact ⟨c.1, mem_rng.2 ⟨m.1, m.2.1⟩, List.mem_map.2 ⟨c.2, mem_rng.2 ⟨m.2.2.1, m.2.2.2⟩, rfl⟩⟩
theorem cells_len (w h : Nat) : (cellsL w h).length = w * h := by
  unfold cellsL
  rw [List.length_flatMap]
  have : ((rangeL 0 (w : Int)).map fun x => ((rangeL 0 (h : Int)).map fun y => (x, y)).length) = List.replicate w h := by
    rw [List.eq_replicate_iff]
    refine ⟨by rw [List.length_map, rng_len]; omega, fun b m => ?_⟩
    obtain ⟨x, _, rfl⟩ := List.mem_map.1 m
    rw [List.length_map, rng_len]; omega
  rw [this, List.sum_replicate_nat]
theorem lcells_ok {T : List (List Cl)} {w h : Nat} (r : Rc T w h) (h1 : 1 ≤ h) (hw : w ≤ 5) (hh : h ≤ 5) : m__law_cells T = some (cellsL w h) := by
  have hS : (1000000 : Nat) ≤ SZ := by decide
  unfold m__law_cells
  dsimp only
  have hT : 0 < T.length := by have := r.lh; omega
  rw [show ixN T.length (0 : Int) = some 0 from ixN_nat hT, Option.bind_some]
  have l : (T.getD 0 []).length = w := by
    rw [List.getD_eq_getElem?_getD, List.getElem?_eq_getElem hT]
    exact r.lw _ (List.getElem_mem hT)
  rw [l, ck_pos (rgOk_s (by omega) (by omega) (by omega) (by omega))]
  have step : ∀ (i : Nat) (s : List Cl) (x : Int), (rangeL 0 (w : Int))[i]? = some x → (s = ((rangeL 0 (w : Int)).take (0 + i)).flatMap (fun x => (rangeL 0 (h : Int)).map fun y => (x, y)) ∧ s.length ≤ 5 * (0 + i)) → ∃ s' : List Cl, (s' = ((rangeL 0 (w : Int)).take (0 + i + 1)).flatMap (fun x => (rangeL 0 (h : Int)).map fun y => (x, y)) ∧ s'.length ≤ 5 * (0 + i + 1)) ∧ ∀ kc : List Cl → Option (List Cl),
      ck (rgOk 0 (List.length T : Int)) (compO (rangeL 0 (List.length T : Int)) () (fun x590 (t589 : Unit) kc597 => (kc597 (some (x, x590)) ())) [] fun (ys595 : List Cl) (t596 : Unit) => ck (decide (List.length s + List.length ys595 ≤ SZ)) (kc (s ++ ys595))) = kc s' := by
    intro i s x hxi he
    obtain ⟨e1, e2⟩ := he
    have hi := lt_of_get hxi
    rw [rng_len] at hi
    have sn : (rangeL 0 (w : Int)).take (i + 1) = (rangeL 0 (w : Int)).take i ++ [x] := by rw [List.take_add_one, hxi]; rfl
    rw [Nat.zero_add] at e1 e2 ⊢
    refine ⟨s ++ (rangeL 0 (h : Int)).map fun y => (x, y), ⟨by rw [sn, List.flatMap_append, ← e1]; simp, by rw [List.length_append, List.length_map, rng_len]; omega⟩, fun kc => ?_⟩
    rw [r.lh, ck_pos (rgOk_s (by omega) (by omega) (by omega) (by omega))]
    refine (compO_map (fun y : Int => (x, y)) () _ [] (by rw [rng_len]; simp; omega) fun _ _ _ => rfl).trans ?_
    rw [List.nil_append, ck_pos (decide_eq_true (by rw [List.length_map, rng_len]; omega))]
  obtain ⟨s', ⟨e', _⟩, ek⟩ := forO_run (Ω := List Cl) (fun n (s : List Cl) => s = ((rangeL 0 (w : Int)).take n).flatMap (fun x => (rangeL 0 (h : Int)).map fun y => (x, y)) ∧ s.length ≤ 5 * n) (rangeL 0 (w : Int)) 0 [] ⟨rfl, by simp⟩ step
  rw [Nat.zero_add, List.take_length] at e'
  refine (ek _).trans ?_
  rw [e']; rfl
theorem pcells_ok {T : List (List Cl)} {w h : Nat} (r : Rc T w h) (h1 : 1 ≤ h) (hw : w ≤ 5) (hh : h ≤ 5) : m_cells_in T = some (cellsL w h) := by
  have hS : (1000000 : Nat) ≤ SZ := by decide
  unfold m_cells_in
  dsimp only
  obtain ⟨e, l⟩ := r.row (y := 0) (by decide) (by omega)
  have ne : (!List.isEmpty T) = true := by
    have := r.lh
    cases T with
    | nil => simp at this; omega
    | cons a b => rfl
  rw [ne, ite_t, e, Option.bind_some, l, r.lh, ck_pos (rgOk_s (by omega) (by omega) (by omega) (by omega))]
  have step : ∀ (i : Nat) (s : List Cl) (x : Int), (rangeL 0 (w : Int))[i]? = some x → (s = ((rangeL 0 (w : Int)).take (0 + i)).flatMap (fun x => (rangeL 0 (h : Int)).map fun y => (x, y)) ∧ s.length ≤ 5 * (0 + i)) → ∃ s' : List Cl, (s' = ((rangeL 0 (w : Int)).take (0 + i + 1)).flatMap (fun x => (rangeL 0 (h : Int)).map fun y => (x, y)) ∧ s'.length ≤ 5 * (0 + i + 1)) ∧ ∀ kc : List Cl → Option (List Cl),
      forO (rangeL 0 (h : Int)) s (fun y (a : List Cl) kc19 => ck (decide (List.length a < SZ)) (kc19 (a ++ [(x, y)]))) kc = kc s' := by
    intro i s x hxi he
    obtain ⟨e1, e2⟩ := he
    have hi := lt_of_get hxi
    rw [rng_len] at hi
    have sn : (rangeL 0 (w : Int)).take (i + 1) = (rangeL 0 (w : Int)).take i ++ [x] := by rw [List.take_add_one, hxi]; rfl
    rw [Nat.zero_add] at e1 e2 ⊢
    refine ⟨s ++ (rangeL 0 (h : Int)).map fun y => (x, y), ⟨by rw [sn, List.flatMap_append, ← e1]; simp, by rw [List.length_append, List.length_map, rng_len]; omega⟩, fun kc => ?_⟩
    refine (forO_filt (fun y : Int => some (x, y)) _ _ (by rw [rng_len]; omega) fun y _ t kc ht => ?_).trans ?_
    · rw [ck_pos (decide_eq_true ht)]; rfl
    · rw [show (fun y : Int => some (x, y)) = (some ∘ fun y : Int => (x, y)) from rfl, List.filterMap_eq_map]
  obtain ⟨s', ⟨e', _⟩, ek⟩ := forO_run (Ω := List Cl) (fun n (s : List Cl) => s = ((rangeL 0 (w : Int)).take n).flatMap (fun x => (rangeL 0 (h : Int)).map fun y => (x, y)) ∧ s.length ≤ 5 * n) (rangeL 0 (w : Int)) 0 [] ⟨rfl, by simp⟩ step
  rw [Nat.zero_add, List.take_length] at e'
  refine Eq.trans ?_ ((ek fun s => some s).trans (by rw [e']; rfl))
  refine forO_congr _ _ fun x _ s kc => ?_
  rw [ck_pos (rgOk_s (by omega) (by omega) (by omega) (by omega))]
/-! ### tables made cell by cell -/
def tabL {α : Type} (w h : Nat) (F : Cl → α) : List (List α) := (rangeL 0 (h : Int)).map fun y => (rangeL 0 (w : Int)).map fun x => F (x, y)
theorem tab_rc {α : Type} (w h : Nat) (F : Cl → α) : Rc (tabL w h F) w h := ⟨by unfold tabL; rw [List.length_map, rng_len]; omega, fun r m => by
  obtain ⟨y, _, rfl⟩ := List.mem_map.1 m
  rw [List.length_map, rng_len]; omega⟩
theorem rng_get {n i : Nat} (hi : i < n) : (rangeL 0 (n : Int))[i]? = some (i : Int) := by
  rw [rangeL_nat, List.getElem?_map, List.getElem?_range hi]; rfl
theorem tab_gt {α : Type} {w h : Nat} {F : Cl → α} (d : α) {c : Cl} (i : Ins w h c) : gt d (tabL w h F) c = F c := by
  obtain ⟨h0, h1, h2, h3⟩ := i
  obtain ⟨x, y⟩ := c
  dsimp only at h0 h1 h2 h3
  obtain ⟨a, rfl⟩ := Int.eq_ofNat_of_zero_le h0
  obtain ⟨b, rfl⟩ := Int.eq_ofNat_of_zero_le h2
  unfold gt tabL
  simp only [Int.toNat_natCast, List.getD_eq_getElem?_getD, List.getElem?_map, rng_get (show b < h by omega), Option.map_some, Option.getD_some, rng_get (show a < w by omega)]
theorem tab_run {α β Ω : Type} {T : List (List α)} {w h : Nat} (r : Rc T w h) (h1 : 1 ≤ h) (hw : w ≤ 5) (hh : h ≤ 5) (F : Cl → β) {b : Int → Int → (Option β → Unit → Option Ω) → Option Ω} (hb : ∀ x y : Int, Ins w h (x, y) → ∀ kc, b y x kc = kc (some (F (x, y))) ()) (K : List (List β) → Unit → Option Ω) :
    ck (rgOk 0 (List.length T : Int)) (compO (rangeL 0 (List.length T : Int)) () (fun y (t : Unit) kc => (atI T (0 : Int)).bind fun r0 => ck (rgOk 0 (List.length r0 : Int)) (compO (rangeL 0 (List.length r0 : Int)) () (fun x (t : Unit) kc2 => b y x kc2) [] fun (ys : List β) (t : Unit) => kc (some ys) ())) [] K) = K (tabL w h F) () := by
  have hS : (1000000 : Nat) ≤ SZ := by decide
  obtain ⟨e, l⟩ := r.row (y := 0) (by decide) (by omega)
  rw [r.lh, ck_pos (rgOk_s (by omega) (by omega) (by omega) (by omega))]
  refine (compO_map (fun y : Int => (rangeL 0 (w : Int)).map fun x => F (x, y)) () _ [] (by rw [rng_len]; simp; omega) fun y my kc => ?_).trans ?_
  · rw [e, Option.bind_some, l, ck_pos (rgOk_s (by omega) (by omega) (by omega) (by omega))]
    refine (compO_map (fun x : Int => F (x, y)) () _ [] (by rw [rng_len]; simp; omega) fun x mx kc => ?_).trans ?_
    · have a := mem_rng.1 mx
      have b := mem_rng.1 my
      exact hb x y ⟨a.1, a.2, b.1, b.2⟩ kc
    · rw [List.nil_append]
  · rw [List.nil_append]; rfl
theorem tab_of {α : Type} {T : List (List α)} {w h : Nat} (r : Rc T w h) (d : α) : T = tabL w h (gt d T) := by
  refine List.ext_getElem? fun i => ?_
  by_cases hi : i < h
  · have hT : i < T.length := by rw [r.lh]; exact hi
    unfold tabL
    rw [List.getElem?_map, rng_get hi, List.getElem?_eq_getElem hT]
    simp only [Option.map_some]
    congr 1
    have lr := r.lw _ (List.getElem_mem hT)
    refine List.ext_getElem? fun j => ?_
    by_cases hj : j < w
    · rw [List.getElem?_map, rng_get hj, List.getElem?_eq_getElem (by omega)]
      simp only [Option.map_some, gt, Int.toNat_natCast, List.getD_eq_getElem?_getD, List.getElem?_eq_getElem hT, Option.getD_some]
      rw [List.getElem?_eq_getElem (by omega)]; rfl
    · rw [List.getElem?_eq_none (by omega), List.getElem?_eq_none (by rw [List.length_map, rng_len]; omega)]
  · rw [List.getElem?_eq_none (by rw [r.lh]; omega), List.getElem?_eq_none (by rw [(tab_rc w h _).lh]; omega)]
theorem take_eq : m__law_take = takeM := rfl
theorem state_eq : m__law_state = stateM := rfl
structure TbOk (B : List (List Cl)) (w h : Nat) : Prop where
  rc : Rc B w h
  w1 : 1 ≤ w
  w5 : w ≤ 5
  h1 : 1 ≤ h
  h5 : h ≤ 5
  bd : ∀ r ∈ B, ∀ p ∈ r, 0 ≤ p.1 ∧ p.1 ≤ p.2 ∧ p.2 ≤ 30
theorem rc_mem {α : Type} {T : List (List α)} {w h : Nat} (r : Rc T w h) (d : α) {Q : α → Prop} (hq : ∀ q ∈ T, ∀ p ∈ q, Q p) {c : Cl} (i : Ins w h c) : Q (gt d T c) := by
  obtain ⟨h0, h1, h2, h3⟩ := i
  obtain ⟨x, y⟩ := c
  dsimp only at h0 h1 h2 h3
  obtain ⟨a, rfl⟩ := Int.eq_ofNat_of_zero_le h0
  obtain ⟨b, rfl⟩ := Int.eq_ofNat_of_zero_le h2
  have hb : b < T.length := by rw [r.lh]; omega
  have lr := r.lw _ (List.getElem_mem hb)
  unfold gt
  simp only [Int.toNat_natCast, List.getD_eq_getElem?_getD, List.getElem?_eq_getElem hb, Option.getD_some]
  rw [List.getElem?_eq_getElem (by omega)]
  exact hq _ (List.getElem_mem hb) _ (List.getElem_mem (by omega))
theorem table_ok {t : TSt} (ht : t.2 ≠ []) : ∃ o, m__law_table t = some o ∧ (o.2.2 ≠ [] ∧ (0 ≤ o.1.2 ∧ o.1.2 ≤ 3) ∧ ∃ w h, TbOk o.1.1 w h) := by
  have hS : (1000000 : Nat) ≤ SZ := by decide
  unfold m__law_table
  rw [take_eq]
  dsimp only
  obtain ⟨w0, t1, e1, a1, b1, ht⟩ := take_ok (m := 5) ht (by decide) (by decide)
  rw [e1, Option.bind_some]
  dsimp only
  obtain ⟨h0, t2, e2, a2, b2, ht⟩ := take_ok (m := 5) ht (by decide) (by decide)
  rw [e2, Option.bind_some]
  dsimp only
  obtain ⟨s0, t3, e3, a3, b3, ht⟩ := take_ok (m := 4) ht (by decide) (by decide)
  rw [e3, Option.bind_some]
  dsimp only
  obtain ⟨bs, t4, e4, a4, b4, ht⟩ := take_ok (m := 6) ht (by decide) (by decide)
  rw [e4, Option.bind_some]
  dsimp only
  rw [ck_pos (rgOk_s (by omega) (by omega) (by omega) (by omega))]
  refine forO_exN (fun n (s : TSt × List (List Cl)) => s.1.2 ≠ [] ∧ s.2.length = n ∧ ∀ r ∈ s.2, r.length = (1 + w0).toNat ∧ ∀ p ∈ r, 0 ≤ p.1 ∧ p.1 ≤ p.2 ∧ p.2 ≤ 30) _ 0 _ ⟨ht, rfl, (fun _ m => nomatch m)⟩ (fun i s x hxi hv kc hk => ?_) (fun s hv => ?_)
  · obtain ⟨ht, hl, hr⟩ := hv
    have hi := lt_of_get hxi
    rw [rng_len] at hi
    rw [ck_pos (rgOk_s (by omega) (by omega) (by omega) (by omega))]
    refine forO_exN (fun n (s : TSt × List Cl) => s.1.2 ≠ [] ∧ s.2.length = n ∧ ∀ p ∈ s.2, 0 ≤ p.1 ∧ p.1 ≤ p.2 ∧ p.2 ≤ 30) _ 0 _ ⟨ht, rfl, (fun _ m => nomatch m)⟩ (fun i2 s2 x2 hx2 hv2 kc2 hk2 => ?_) (fun s2 hv2 => ?_)
    · obtain ⟨ht2, hl2, hr2⟩ := hv2
      have hi2 := lt_of_get hx2
      rw [rng_len] at hi2
      obtain ⟨c0, t5, e5, a5, b5, ht5⟩ := take_ok (m := 8) ht2 (by decide) (by decide)
      rw [e5, Option.bind_some]
      dsimp only
      have fin : ∀ (z : Int) (j : TSt), 0 ≤ z → z ≤ 10 → j.2 ≠ [] → ∃ r, ((takeM j (2 : Int)).bind fun r362 =>
        (atI ([(2 : Int), (8 : Int)]) r362.1).bind fun y363 =>
        (takeM r362.2 y363).bind fun r365 =>
        ck (decide (List.length s2.2 < SZ)) (kc2 (r365.2, s2.2 ++ [(z, (z + r365.1))]))) = some r ∧ (r.2.2 ≠ [] ∧ (0 ≤ r.1.2 ∧ r.1.2 ≤ 3) ∧ ∃ w h, TbOk r.1.1 w h) := fun z j z0 z1 hj => by
        obtain ⟨v, t6, e6, a6, b6, ht6⟩ := take_ok (m := 2) hj (by decide) (by decide)
        rw [e6, Option.bind_some]
        dsimp only
        obtain ⟨y, ey, y0, y1⟩ : ∃ y, atI ([(2 : Int), (8 : Int)]) v = some y ∧ 1 ≤ y ∧ y ≤ 8 := by
          have : v = 0 ∨ v = 1 := by omega
          rcases this with rfl | rfl
          · exact ⟨2, rfl, by decide, by decide⟩
          · exact ⟨8, rfl, by decide, by decide⟩
        rw [ey, Option.bind_some]
        obtain ⟨v2, t7, e7, a7, b7, ht7⟩ := take_ok (m := y) ht6 (by omega) (by omega)
        rw [e7, Option.bind_some, ck_pos (decide_eq_true (by omega))]
        refine hk2 _ ⟨ht7, by simp [hl2], fun p m => ?_⟩
        rcases List.mem_append.1 m with m | m
        · exact hr2 p m
        · simp at m; subst m; dsimp only; omega
      rw [ite_d]
      by_cases c : 0 < c0
      · rw [if_pos c]
        obtain ⟨v, t6, e6, a6, b6, ht6⟩ := take_ok (m := 4) ht5 (by decide) (by decide)
        rw [e6, Option.bind_some]
        exact fin _ _ (by dsimp only; omega) (by dsimp only; omega) ht6
      · rw [if_neg c]
        obtain ⟨v, t6, e6, a6, b6, ht6⟩ := take_ok (m := 10) ht5 (by decide) (by decide)
        rw [e6, Option.bind_some]
        exact fin _ _ (by dsimp only; omega) (by dsimp only; omega) ht6
    · obtain ⟨ht2, hl2, hr2⟩ := hv2
      rw [rng_len] at hl2
      rw [ck_pos (decide_eq_true (by omega))]
      refine hk _ ⟨ht2, by simp [hl], fun r m => ?_⟩
      rcases List.mem_append.1 m with m | m
      · exact hr r m
      · simp at m; subst m; exact ⟨by omega, hr2⟩
  · obtain ⟨ht, hl, hr⟩ := hv
    rw [rng_len] at hl
    exact ⟨_, rfl, ht, ⟨a3, by dsimp only; omega⟩, (1 + w0).toNat, (1 + h0).toNat, ⟨by dsimp only; omega, fun r m => (hr r m).1⟩, by omega, by omega, by omega, by omega, fun r m => (hr r m).2⟩
theorem tab_map {α β : Type} {w h : Nat} {F : Cl → α} (f : α → β) : (tabL w h F).map (List.map f) = tabL w h fun c => f (F c) := by
  unfold tabL
  rw [List.map_map]
  congr 1
  funext y
  simp [List.map_map, Function.comp_def]
/-! ### k50: distances, bounds that follow -/
def ab (x : Int) : Int := if x < 0 then -x else x
def dst (a b : Cl) : Int := ab (a.1 - b.1) + ab (a.2 - b.2)
theorem ab0 (x : Int) : 0 ≤ ab x := by unfold ab; split <;> omega
theorem dst_self (a : Cl) : dst a a = 0 := by unfold dst ab; simp
theorem dst_nn (a b : Cl) : 0 ≤ dst a b := by
  have := ab0 (a.1 - b.1); have := ab0 (a.2 - b.2)
  unfold dst; omega
theorem dst_tri (a b c : Cl) : dst a c ≤ dst b a + dst b c := by
  unfold dst ab
  split <;> split <;> split <;> split <;> split <;> split <;> omega
theorem dst_comm (a b : Cl) : dst a b = dst b a := by
  unfold dst ab
  split <;> split <;> split <;> split <;> omega
def lw (B : List (List Cl)) (c : Cl) : Int := (gt (0, 0) B c).1
def hg (B : List (List Cl)) (c : Cl) : Int := (gt (0, 0) B c).2
def lof (B : List (List Cl)) (s : Int) (c o : Cl) : Int := lw B o - s * dst c o
def hif (B : List (List Cl)) (s : Int) (c o : Cl) : Int := hg B o + s * dst c o
def isX (B : List (List Cl)) (s : Int) (a b : Cl) : Bool := decide (hg B b < lw B a - s * dst a b)
def crs (B : List (List Cl)) (s : Int) (w h : Nat) : Option (Cl × Cl) := ((cellsL w h).find? fun a => ((cellsL w h).find? (isX B s a)).isSome).map fun a => (a, ((cellsL w h).find? (isX B s a)).getD (0, 0))
theorem crs_none {B : List (List Cl)} {s : Int} {w h : Nat} (e : crs B s w h = none) {a b : Cl} (ia : Ins w h a) (ib : Ins w h b) : lw B a - s * dst a b ≤ hg B b := by
  unfold crs at e
  rw [Option.map_eq_none_iff] at e
  have := List.find?_eq_none.1 e a (mem_cells.2 ia)
  rw [Bool.not_eq_true, Option.isSome_eq_false_iff, Option.isNone_iff_eq_none] at this
  have := List.find?_eq_none.1 this b (mem_cells.2 ib)
  have : ¬ hg B b < lw B a - s * dst a b := fun z => this (decide_eq_true z)
  omega
theorem crs_some {B : List (List Cl)} {s : Int} {w h : Nat} {p : Cl × Cl} (e : crs B s w h = some p) : p.1 ∈ cellsL w h ∧ p.2 ∈ cellsL w h ∧ isX B s p.1 p.2 = true := by
  unfold crs at e
  obtain ⟨a, ea, rfl⟩ := Option.map_eq_some_iff.1 e
  have h1 := List.find?_some ea
  have m1 := List.mem_of_find?_eq_some ea
  cases e2 : (cellsL w h).find? (isX B s a) with
  | none => rw [e2] at h1; cases h1
  | some b =>
    have h3 : isX B s a b = true := List.find?_some e2
    exact ⟨m1, List.mem_of_find?_eq_some e2, h3⟩
section
variable {B : List (List Cl)} {w h : Nat} {s : Int}
theorem crossing_ok (rB : Rc B w h) (h1 : 1 ≤ h) (hw : w ≤ 5) (hh : h ≤ 5) (s0 : 0 ≤ s) (s3 : s ≤ 3) : m_crossing B s = some (crs B s w h) := by
  unfold m_crossing
  rw [pcells_ok rB h1 hw hh, Option.bind_some]
  dsimp only
  refine (forO_find (fun a => ((cellsL w h).find? (isX B s a)).isSome) (fun a => some (a, ((cellsL w h).find? (isX B s a)).getD (0, 0))) _ fun a ma kc => ?_).trans ?_
  · refine (forO_find (isX B s a) (fun b => some (a, b)) _ fun b mb kc => ?_).trans ?_
    · refine (at_lo rB (mem_cells.1 ma) _).trans ?_
      rw [show m_steps a b = some (dst a b) from rfl, Option.bind_some, ck_pos (mulOk_l s0 (by omega))]
      exact at_hi rB (mem_cells.1 mb) _
    · cases (cellsL w h).find? (isX B s a) <;> rfl
  · unfold crs
    cases (cellsL w h).find? fun a => ((cellsL w h).find? (isX B s a)).isSome <;> rfl
theorem lcrossing_ok (rB : Rc B w h) (h1 : 1 ≤ h) (hw : w ≤ 5) (hh : h ≤ 5) (s0 : 0 ≤ s) (s3 : s ≤ 3) : m__law_crossing B s = some (crs B s w h) := by
  unfold m__law_crossing
  rw [lcells_ok rB h1 hw hh, Option.bind_some]
  refine (forO_find (fun a => ((cellsL w h).find? (isX B s a)).isSome) (fun a => some (a, ((cellsL w h).find? (isX B s a)).getD (0, 0))) _ fun a ma kc => ?_).trans ?_
  · rw [Option.bind_some]
    refine (forO_find (isX B s a) (fun b => some (a, b)) _ fun b mb kc => ?_).trans ?_
    · refine (rB.at (0, 0) (mem_cells.1 ma) _).trans ?_
      rw [show m__law_steps a b = some (dst a b) from rfl, Option.bind_some, ck_pos (mulOk_l s0 (by omega))]
      exact rB.at (0, 0) (mem_cells.1 mb) _
    · cases (cellsL w h).find? (isX B s a) <;> rfl
  · unfold crs
    cases (cellsL w h).find? fun a => ((cellsL w h).find? (isX B s a)).isSome <;> rfl
/-- the first best -/
def stp (P : Int → Int → Bool) (f : Cl → Int) (o : Option (Int × Cl)) (x : Cl) : Option (Int × Cl) := match o with
  | none => some (f x, x)
  | some p => if P p.1 (f x) = true then some (f x, x) else some p
def bst (P : Int → Int → Bool) (f : Cl → Int) (L : List Cl) : Option (Int × Cl) := L.foldl (stp P f) none
theorem bst_spec (P : Int → Int → Bool) (hP : ∀ v u y, P v u = true → P v y = false → P u y = false) (hr : ∀ v, P v v = false) (f : Cl → Int) : ∀ (L : List Cl), L ≠ [] → ∃ v c, bst P f L = some (v, c) ∧ c ∈ L ∧ f c = v ∧ (∀ x ∈ L, P v (f x) = false) ∧ L.find? (fun x => decide (f x = v)) = some c := by
  intro L hL
  have key : ∀ (R : List Cl) (n : Nat), R.length = n → R ≠ [] → ∃ v c, bst P f R = some (v, c) ∧ c ∈ R ∧ f c = v ∧ (∀ x ∈ R, P v (f x) = false) ∧ R.find? (fun x => decide (f x = v)) = some c := by
    intro R n
    induction n generalizing R with
    | zero => intro e h; exact absurd (List.eq_nil_of_length_eq_zero e) h
    | succ n ih =>
      intro e hne
      obtain ⟨Q, x, rfl⟩ : ∃ Q x, R = Q ++ [x] := ⟨R.dropLast, R.getLast hne, (List.dropLast_concat_getLast hne).symm⟩
      have eb : bst P f (Q ++ [x]) = stp P f (bst P f Q) x := by unfold bst; rw [List.foldl_append]; rfl
      by_cases hQ : Q = []
      · subst hQ
        exact ⟨f x, x, rfl, by simp, rfl, fun y m => by simp at m; subst m; exact hr _, by simp⟩
      · obtain ⟨v, c, e1, m1, fc, a1, f1⟩ := ih Q (by simpa using e) hQ
        rw [eb, e1]
        by_cases z : P v (f x) = true
        · refine ⟨f x, x, if_pos z, by simp, rfl, fun y m => ?_, ?_⟩
          · rcases List.mem_append.1 m with m | m
            · exact hP v (f x) _ z (a1 y m)
            · simp at m; subst m; exact hr _
          · rw [List.find?_append]
            have : Q.find? (fun y => decide (f y = f x)) = none := List.find?_eq_none.2 fun y m q => by
              have := a1 y m
              rw [of_decide_eq_true q] at this
              rw [z] at this; cases this
            rw [this]; simp
        · refine ⟨v, c, if_neg z, by simp [m1], fc, fun y m => ?_, ?_⟩
          · rcases List.mem_append.1 m with m | m
            · exact a1 y m
            · simp at m; subst m; exact Bool.eq_false_iff.2 z
          · rw [List.find?_append, f1]; rfl
  exact key L _ rfl hL
def ltP (v u : Int) : Bool := decide (v < u)
def gtP (v u : Int) : Bool := decide (u < v)
def loV (B : List (List Cl)) (s : Int) (w h : Nat) (c : Cl) : Int × Cl := (bst ltP (lof B s c) (cellsL w h)).getD (0, (0, 0))
def hiV (B : List (List Cl)) (s : Int) (w h : Nat) (c : Cl) : Int × Cl := (bst gtP (hif B s c) (cellsL w h)).getD (0, (0, 0))
theorem cells_ne (w1 : 1 ≤ w) (h1 : 1 ≤ h) : cellsL w h ≠ [] := fun e => by
  have := cells_len w h
  rw [e] at this
  have := Nat.mul_le_mul w1 h1
  simp at *; omega
theorem loV_spec (w1 : 1 ≤ w) (h1 : 1 ≤ h) (c : Cl) : bst ltP (lof B s c) (cellsL w h) = some (loV B s w h c) ∧ (loV B s w h c).2 ∈ cellsL w h ∧ lof B s c (loV B s w h c).2 = (loV B s w h c).1 ∧ (∀ x ∈ cellsL w h, lof B s c x ≤ (loV B s w h c).1) ∧ (cellsL w h).find? (fun x => decide (lof B s c x = (loV B s w h c).1)) = some (loV B s w h c).2 := by
  obtain ⟨v, p, e, m, f, a, q⟩ := bst_spec ltP (fun v u y a b => by have a := of_decide_eq_true a; have b := of_decide_eq_false b; exact decide_eq_false (by omega)) (fun v => decide_eq_false (by omega)) (lof B s c) (cellsL w h) (cells_ne w1 h1)
  have e' : loV B s w h c = (v, p) := by unfold loV; rw [e]; rfl
  rw [e']
  exact ⟨e, m, f, fun x mx => by have := of_decide_eq_false (a x mx); dsimp only; omega, q⟩
theorem hiV_spec (w1 : 1 ≤ w) (h1 : 1 ≤ h) (c : Cl) : bst gtP (hif B s c) (cellsL w h) = some (hiV B s w h c) ∧ (hiV B s w h c).2 ∈ cellsL w h ∧ hif B s c (hiV B s w h c).2 = (hiV B s w h c).1 ∧ (∀ x ∈ cellsL w h, (hiV B s w h c).1 ≤ hif B s c x) ∧ (cellsL w h).find? (fun x => decide (hif B s c x = (hiV B s w h c).1)) = some (hiV B s w h c).2 := by
  obtain ⟨v, p, e, m, f, a, q⟩ := bst_spec gtP (fun v u y a b => by have a := of_decide_eq_true a; have b := of_decide_eq_false b; exact decide_eq_false (by omega)) (fun v => decide_eq_false (by omega)) (hif B s c) (cellsL w h) (cells_ne w1 h1)
  have e' : hiV B s w h c = (v, p) := by unfold hiV; rw [e]; rfl
  rw [e']
  exact ⟨e, m, f, fun x mx => by have := of_decide_eq_false (a x mx); dsimp only; omega, q⟩
theorem foldl_pair {α β γ : Type} (f : α → γ → α) (g : β → γ → β) : ∀ (L : List γ) (a : α) (b : β), L.foldl (fun t x => (f t.1 x, g t.2 x)) (a, b) = (L.foldl f a, L.foldl g b)
  | [], _, _ => rfl
  | x :: L, a, b => foldl_pair f g L (f a x) (g b x)
theorem tightest_ok (rB : Rc B w h) (w1 : 1 ≤ w) (h1 : 1 ≤ h) (hw : w ≤ 5) (hh : h ≤ 5) (s0 : 0 ≤ s) (s3 : s ≤ 3) (c : Cl) : m_tightest B s c = some (((loV B s w h c).1, (hiV B s w h c).1), (loV B s w h c).2, (hiV B s w h c).2) := by
  unfold m_tightest
  dsimp only
  rw [pcells_ok rB h1 hw hh, Option.bind_some]
  refine (forO_fold (fun t x => (stp ltP (lof B s c) t.1 x, stp gtP (hif B s c) t.2 x)) _ _ fun x mx t kc => ?_).trans ?_
  · have i := mem_cells.1 mx
    rw [show m_steps c x = some (dst c x) from rfl, Option.bind_some, ck_pos (mulOk_l s0 (by omega))]
    refine (at_lo rB i _).trans ((at_hi rB i _).trans ?_)
    obtain ⟨o1, o2⟩ := t
    have l1 : ∀ {Ω : Type} (o : Option (Int × Cl)) (v : Int) (K : Bool → Option Ω), ((if (isNone ((eO (eT2 eI (eT2 eI eI)) (fun _ h => by cases h)).enc o)) = true then some true else (o.bind fun y => some (decide (y.1 < v)))).bind K) = K (o.elim true fun p => ltP p.1 v) := fun o v K => by cases o <;> rfl
    have l2 : ∀ {Ω : Type} (o : Option (Int × Cl)) (v : Int) (K : Bool → Option Ω), ((if (isNone ((eO (eT2 eI (eT2 eI eI)) (fun _ h => by cases h)).enc o)) = true then some true else (o.bind fun y => some (decide (v < y.1)))).bind K) = K (o.elim true fun p => gtP p.1 v) := fun o v K => by cases o <;> rfl
    have l3 : ∀ {Ω : Type} (P : Int → Int → Bool) (f : Cl → Int) (o : Option (Int × Cl)) (K : Option (Int × Cl) → Option Ω), (if (o.elim true fun p => P p.1 (f x)) = true then K (some (f x, x)) else K o) = K (stp P f o x) := fun P f o K => by
      cases o with
      | none => rfl
      | some p =>
        show (if P p.1 (f x) = true then _ else _) = K (if P p.1 (f x) = true then _ else _)
        split <;> rfl
    refine (l1 o1 _ _).trans ?_
    have l4 : ∀ j, ((if (isNone ((eO (eT2 eI (eT2 eI eI)) (fun _ h => by cases h)).enc o2)) = true then some true else (o2.bind fun y => some (decide (hif B s c x < y.1)))).bind fun z129 : Bool => if z129 = true then kc (j, some (hif B s c x, x)) else kc (j, o2)) = kc (j, stp gtP (hif B s c) o2 x) := fun j => (l2 o2 _ _).trans (l3 gtP (hif B s c) o2 fun z => kc (j, z))
    refine Eq.trans ?_ (l3 ltP (lof B s c) o1 fun z => kc (z, stp gtP (hif B s c) o2 x))
    show (if (o1.elim true fun p => ltP p.1 (lof B s c x)) = true then _ else _) = _
    by_cases q : (o1.elim true fun p => ltP p.1 (lof B s c x)) = true
    · rw [if_pos q, if_pos q]; exact l4 _
    · rw [if_neg q, if_neg q]; exact l4 _
  · rw [foldl_pair]
    have a := (loV_spec (B := B) (s := s) w1 h1 c).1
    have b := (hiV_spec (B := B) (s := s) w1 h1 c).1
    unfold bst at a b
    rw [a, b]; rfl
theorem least_ok (rB : Rc B w h) (w1 : 1 ≤ w) (h1 : 1 ≤ h) (hw : w ≤ 5) (hh : h ≤ 5) (s0 : 0 ≤ s) (s3 : s ≤ 3) (c : Cl) : m__law_least B s c = some (loV B s w h c).1 := by
  have hS : (1000000 : Nat) ≤ SZ := by decide
  have hc : (cellsL w h).length ≤ 25 := by
    rw [cells_len]; exact Nat.le_trans (Nat.mul_le_mul hw hh) (by decide)
  unfold m__law_least
  rw [lcells_ok rB h1 hw hh, Option.bind_some]
  refine (compO_map (lof B s c) () _ [] (by simp; omega) fun x mx kc => ?_).trans ?_
  · refine (rB.atx (0, 0) (mem_cells.1 mx) _).trans ?_
    rw [show m__law_steps c (x.1, x.2) = some (dst c x) from rfl, Option.bind_some, ck_pos (mulOk_l s0 (by omega))]
    rfl
  · obtain ⟨_, m, f, a, _⟩ := loV_spec (B := B) (s := s) w1 h1 c
    rw [List.nil_append, maxI_of (m := (loV B s w h c).1) (List.mem_map.2 ⟨_, m, f⟩) fun y my => by obtain ⟨x, mx, rfl⟩ := List.mem_map.1 my; exact a x mx]
    rfl
theorem most_ok (rB : Rc B w h) (w1 : 1 ≤ w) (h1 : 1 ≤ h) (hw : w ≤ 5) (hh : h ≤ 5) (s0 : 0 ≤ s) (s3 : s ≤ 3) (c : Cl) : m__law_most B s c = some (hiV B s w h c).1 := by
  have hS : (1000000 : Nat) ≤ SZ := by decide
  have hc : (cellsL w h).length ≤ 25 := by
    rw [cells_len]; exact Nat.le_trans (Nat.mul_le_mul hw hh) (by decide)
  unfold m__law_most
  rw [lcells_ok rB h1 hw hh, Option.bind_some]
  refine (compO_map (hif B s c) () _ [] (by simp; omega) fun x mx kc => ?_).trans ?_
  · refine (rB.atx (0, 0) (mem_cells.1 mx) _).trans ?_
    rw [show m__law_steps c (x.1, x.2) = some (dst c x) from rfl, Option.bind_some, ck_pos (mulOk_l s0 (by omega))]
    rfl
  · obtain ⟨_, m, f, a, _⟩ := hiV_spec (B := B) (s := s) w1 h1 c
    rw [List.nil_append, minI_of (m := (hiV B s w h c).1) (List.mem_map.2 ⟨_, m, f⟩) fun y my => by obtain ⟨x, mx, rfl⟩ := List.mem_map.1 my; exact a x mx]
    rfl
/-- both tables of what follows -/
def tbT (B : List (List Cl)) (s : Int) (w h : Nat) : List (List (Int × Int)) := tabL w h fun c => ((loV B s w h c).1, (hiV B s w h c).1)
def tbH (B : List (List Cl)) (s : Int) (w h : Nat) : List (List (Cl × Cl)) := tabL w h fun c => ((loV B s w h c).2, (hiV B s w h c).2)
def crsD (p : Cl × Cl) : PyData := .tuple [.str "cross", (eT2 eI eI).enc p.1, (eT2 eI eI).enc p.2]
def tgtD (T : List (List (Int × Int))) (H : List (List (Cl × Cl))) : PyData := .tuple [.str "tight", (eL (eL (eT2 eI eI))).enc T, (eL (eL (eT2 (eT2 eI eI) (eT2 eI eI)))).enc H]
theorem tighten_ok (rB : Rc B w h) (w1 : 1 ≤ w) (h1 : 1 ≤ h) (hw : w ≤ 5) (hh : h ≤ 5) (s0 : 0 ≤ s) (s3 : s ≤ 3) : m_tighten B s = some ((crs B s w h).elim (tgtD (tbT B s w h) (tbH B s w h)) crsD) := by
  have hS : (1000000 : Nat) ≤ SZ := by decide
  unfold m_tighten
  rw [crossing_ok rB h1 hw hh s0 s3, Option.bind_some]
  dsimp only
  cases crs B s w h with
  | some p => rfl
  | none =>
    rw [show (!isNone ((eO (eT2 (eT2 eI eI) (eT2 eI eI)) (fun _ h => by cases h)).enc (none : Option (Cl × Cl)))) = false from rfl, ite_f]
    rw [rB.lh, ck_pos (rgOk_s (by omega) (by omega) (by omega) (by omega))]
    obtain ⟨e0, l0⟩ := rB.row (y := 0) (by decide) (by omega)
    have step : ∀ (i : Nat) (st : List (List (Int × Int)) × List (List (Cl × Cl))) (y : Int), (rangeL 0 (h : Int))[i]? = some y → (st.1 = ((rangeL 0 (h : Int)).take (0 + i)).map (fun y => (rangeL 0 (w : Int)).map fun x => ((loV B s w h (x, y)).1, (hiV B s w h (x, y)).1)) ∧ st.2 = ((rangeL 0 (h : Int)).take (0 + i)).map (fun y => (rangeL 0 (w : Int)).map fun x => ((loV B s w h (x, y)).2, (hiV B s w h (x, y)).2))) →
        ∃ st' : List (List (Int × Int)) × List (List (Cl × Cl)), (st'.1 = ((rangeL 0 (h : Int)).take (0 + i + 1)).map (fun y => (rangeL 0 (w : Int)).map fun x => ((loV B s w h (x, y)).1, (hiV B s w h (x, y)).1)) ∧ st'.2 = ((rangeL 0 (h : Int)).take (0 + i + 1)).map (fun y => (rangeL 0 (w : Int)).map fun x => ((loV B s w h (x, y)).2, (hiV B s w h (x, y)).2))) ∧ ∀ kc : List (List (Int × Int)) × List (List (Cl × Cl)) → Option PyData,
        ((atI B (0 : Int)).bind fun y169 =>
          ck (rgOk 0 (List.length y169 : Int)) (compO (rangeL 0 (List.length y169 : Int)) () (fun x172 (t171 : Unit) kc183 => (
            (m_tightest B s (x172, y)).bind fun r179 =>
            kc183 (some r179) ())) [] fun (ys181 : List ((Int × Int) × (Int × Int) × (Int × Int))) (t182 : Unit) => (
            compO ys181 () (fun x190 (t189 : Unit) kc195 => (
              kc195 (some x190.1) ())) [] fun (ys193 : List (Int × Int)) (t194 : Unit) => (
              ck (decide (List.length st.1 < SZ)) (
              compO ys181 () (fun x201 (t200 : Unit) kc206 => (
                kc206 (some (x201.2.1, x201.2.2)) ())) [] fun (ys204 : List ((Int × Int) × (Int × Int))) (t205 : Unit) => (
                ck (decide (List.length st.2 < SZ)) (
                kc (st.1 ++ [ys193], st.2 ++ [ys204])))))))) = kc st' := by
      intro i st y hy he
      obtain ⟨st1, st2⟩ := st
      obtain ⟨q1, q2⟩ := he
      have hi := lt_of_get hy
      rw [rng_len] at hi
      have sn : (rangeL 0 (h : Int)).take (i + 1) = (rangeL 0 (h : Int)).take i ++ [y] := by rw [List.take_add_one, hy]; rfl
      rw [Nat.zero_add] at q1 q2 ⊢
      dsimp only at q1 q2
      have n1 : st1.length ≤ 5 := by rw [q1, List.length_map, List.length_take, rng_len]; omega
      have n2 : st2.length ≤ 5 := by rw [q2, List.length_map, List.length_take, rng_len]; omega
      refine ⟨(st1 ++ [(rangeL 0 (w : Int)).map fun x => ((loV B s w h (x, y)).1, (hiV B s w h (x, y)).1)], st2 ++ [(rangeL 0 (w : Int)).map fun x => ((loV B s w h (x, y)).2, (hiV B s w h (x, y)).2)]), ⟨by rw [sn, List.map_append, ← q1]; rfl, by rw [sn, List.map_append, ← q2]; rfl⟩, fun kc => ?_⟩
      rw [e0, Option.bind_some, l0, ck_pos (rgOk_s (by omega) (by omega) (by omega) (by omega))]
      refine (compO_map (fun x : Int => (((loV B s w h (x, y)).1, (hiV B s w h (x, y)).1), (loV B s w h (x, y)).2, (hiV B s w h (x, y)).2)) () _ [] (by rw [rng_len]; simp; omega) fun x mx kc => ?_).trans ?_
      · rw [tightest_ok rB w1 h1 hw hh s0 s3, Option.bind_some]
      · rw [List.nil_append]
        refine (compO_map (fun x : (Int × Int) × Cl × Cl => x.1) () _ [] (by rw [List.length_map, rng_len]; simp; omega) fun x mx kc => rfl).trans ?_
        rw [List.nil_append, ck_pos (decide_eq_true (by dsimp only; omega))]
        refine (compO_map (fun x : (Int × Int) × Cl × Cl => (x.2.1, x.2.2)) () _ [] (by rw [List.length_map, rng_len]; simp; omega) fun x mx kc => rfl).trans ?_
        rw [List.nil_append, ck_pos (decide_eq_true (by dsimp only; omega)), List.map_map, List.map_map]
        rfl
    obtain ⟨⟨t1, t2⟩, ⟨q1, q2⟩, ek⟩ := forO_run (Ω := PyData) (fun n (st : List (List (Int × Int)) × List (List (Cl × Cl))) => st.1 = ((rangeL 0 (h : Int)).take n).map (fun y => (rangeL 0 (w : Int)).map fun x => ((loV B s w h (x, y)).1, (hiV B s w h (x, y)).1)) ∧ st.2 = ((rangeL 0 (h : Int)).take n).map (fun y => (rangeL 0 (w : Int)).map fun x => ((loV B s w h (x, y)).2, (hiV B s w h (x, y)).2))) (rangeL 0 (h : Int)) 0 ([], []) ⟨rfl, rfl⟩ step
    rw [Nat.zero_add, List.take_length] at q1 q2
    refine (ek _).trans ?_
    dsimp only at q1 q2 ⊢
    rw [q1, q2]; rfl
end
/-! ### k50: faults -/
section
variable {B : List (List Cl)} {w h : Nat} {s : Int}
def stB (T : List (List (Int × Int))) (s : Int) (w h : Nat) (p : Int × Int) (o : Cl) : Bool := decide ((o.1 < w ∧ o.2 < h) ∧ (s < ab (p.1 - (gt (0, 0) T o).1) ∨ s < ab (p.2 - (gt (0, 0) T o).2)))
def nxt (c : Cl) : List Cl := [(c.1 + 1, c.2), (c.1, c.2 + 1)]
def wc (x : Str) (c : Cl) : PyData := .tuple [.str x, (eT2 eI eI).enc c]
def wc2 (x : Str) (c o : Cl) : PyData := .tuple [.str x, (eT2 eI eI).enc c, (eT2 eI eI).enc o]
def cellR (B : List (List Cl)) (s : Int) (w h : Nat) (T : List (List (Int × Int))) (hd : Cl × Cl) (c : Cl) : PyData :=
  if (gt (0, 0) T c).2 < (gt (0, 0) T c).1 then wc "order" c
  else if (gt (0, 0) T c).1 < lw B c ∨ hg B c < (gt (0, 0) T c).2 then wc "wide" c
  else ((nxt c).find? (stB T s w h (gt (0, 0) T c))).elim
    (if hd.1 ∈ cellsL w h ∧ lof B s c hd.1 = (gt (0, 0) T c).1 then (if hd.2 ∈ cellsL w h ∧ hif B s c hd.2 = (gt (0, 0) T c).2 then .none else wc "high" c) else wc "low" c)
    (fun o => wc2 "step" c o)
theorem bind_eq_of {α β : Type} {o : Option α} {b : α} {g : α → Option β} {r : Option β} (h : o = some b) (hg : g b = r) : o.bind g = r := by rw [h]; exact hg
theorem or_some {a b : Prop} [Decidable a] [Decidable b] : (if (decide a) = true then some true else some (decide b)) = some (decide (a ∨ b)) := by
  by_cases h : a <;> simp [h]
theorem max_ab {x y s : Int} : decide (s < max (ab x) (ab y)) = decide (s < ab x ∨ s < ab y) := by
  rw [decide_eq_decide]
  omega
theorem nin_bind {Ω : Type} {o : Cl} {L : List Cl} {X : Option Bool} {q : Prop} [Decidable q] {K : Bool → Option Ω} (hX : o ∈ L → X = some (!decide q)) : ((if (!inB o L) = true then some true else X).bind K) = K (!decide (o ∈ L ∧ q)) := by
  by_cases m : o ∈ L
  · rw [show inB o L = true from inB_iff.2 m, ite_nt, hX m, Option.bind_some]
    congr 2
    rw [decide_eq_decide]
    exact ⟨fun z => ⟨m, z⟩, fun z => z.2⟩
  · have : inB o L = false := by
      cases e : inB o L with
      | false => rfl
      | true => exact absurd (inB_iff.1 e) m
    rw [this, ite_nf, Option.bind_some, decide_eq_false (fun z => m z.1)]; rfl
theorem nxt_ins {c o : Cl} (i : Ins w h c) (m : o ∈ nxt c) (p : o.1 < w ∧ o.2 < h) : Ins w h o := by
  unfold nxt at m
  obtain ⟨h0, h1, h2, h3⟩ := i
  simp only [List.mem_cons, List.not_mem_nil, or_false] at m
  rcases m with rfl | rfl
  · exact ⟨by dsimp only; omega, p.1, h2, p.2⟩
  · exact ⟨h0, p.1, by dsimp only; omega, p.2⟩
theorem pcell_ok (rB : Rc B w h) {T : List (List (Int × Int))} (rT : Rc T w h) (h1 : 1 ≤ h) (hw : w ≤ 5) (hh : h ≤ 5) (s0 : 0 ≤ s) (s3 : s ≤ 3) (hd : Cl × Cl) {c : Cl} (i : Ins w h c) : m_cell_fault B s T hd c = some (cellR B s w h T hd c) := by
  unfold m_cell_fault cellR
  rw [at_ok (0, 0) _ rT i, Option.bind_some]
  rw [show (deT2 deI deI) ((eT2 eI eI).enc (gt (0, 0) T c)) = some (gt (0, 0) T c) from (dcT2 dcI dcI).rt _, Option.bind_some]
  dsimp only
  generalize hp : gt (0, 0) T c = p
  obtain ⟨e0, l0⟩ := rT.row (y := 0) (by decide) (by omega)
  rw [ite_d]
  by_cases c1 : p.2 < p.1
  · rw [if_pos c1, if_pos c1]; rfl
  · rw [if_neg c1, if_neg c1]
    have z1 : ((m_at (B.map (List.map (eT2 eI eI).enc)) c).bind fun r231 => (partD r231 (0 : Int)).bind fun y233 => (deI y233).bind fun y234 => if (decide (p.1 < y234)) = true then some true else ((m_at (B.map (List.map (eT2 eI eI).enc)) c).bind fun r244 => (partD r244 (1 : Int)).bind fun y246 => (deI y246).bind fun y247 => some (decide (y247 < p.2)))) = some (decide (p.1 < lw B c ∨ hg B c < p.2)) := by
      refine (at_lo rB i _).trans ?_
      rw [show ((m_at (B.map (List.map (eT2 eI eI).enc)) c).bind fun r244 => (partD r244 (1 : Int)).bind fun y246 => (deI y246).bind fun y247 => some (decide (y247 < p.2))) = some (decide (hg B c < p.2)) from at_hi rB i _]
      exact or_some
    refine bind_eq_of z1 ?_
    rw [ite_d]
    by_cases c2 : p.1 < lw B c ∨ hg B c < p.2
    · rw [if_pos c2, if_pos c2]; rfl
    · rw [if_neg c2, if_neg c2]
      refine (forO_find (stB T s w h p) (fun o => wc2 "step" c o) (nxt c) fun o mo kc => ?_).trans ?_
      · rw [e0, Option.bind_some, l0, rT.lh]
        by_cases q1 : o.1 < (w : Int)
        · by_cases q2 : o.2 < (h : Int)
          · have io := nxt_ins i mo ⟨q1, q2⟩
            rw [decide_eq_true q1, decide_eq_true q2, ite_t, Option.bind_some, ite_t, at_ok (0, 0) _ rT io, Option.bind_some]
            show (if decide (s < max (ab (p.1 - (gt (0, 0) T o).1)) (ab (p.2 - (gt (0, 0) T o).2))) = true then _ else _) = _
            rw [max_ab]
            unfold stB
            rw [ite_d, ite_d]
            by_cases q3 : s < ab (p.1 - (gt (0, 0) T o).1) ∨ s < ab (p.2 - (gt (0, 0) T o).2)
            · rw [if_pos q3, if_pos ⟨⟨q1, q2⟩, q3⟩]; rfl
            · rw [if_neg q3, if_neg (fun z => q3 z.2)]
          · rw [decide_eq_true q1, decide_eq_false q2, ite_t, Option.bind_some, ite_f]
            unfold stB
            rw [ite_d, if_neg (fun z => q2 z.1.2)]
        · rw [decide_eq_false q1, ite_f, Option.bind_some, ite_f]
          unfold stB
          rw [ite_d, if_neg (fun z => q1 z.1.1)]
      · cases (nxt c).find? (stB T s w h p) with
        | some o => rfl
        | none =>
          simp only [Option.elim_none]
          rw [pcells_ok rB h1 hw hh, Option.bind_some]
          refine (nin_bind (q := lof B s c hd.1 = p.1) fun m => ?_).trans ?_
          · refine (at_lo rB (mem_cells.1 m) _).trans ?_
            rw [show m_steps c hd.1 = some (dst c hd.1) from rfl, Option.bind_some, ck_pos (mulOk_l s0 (by omega))]
            rfl
          rw [ite_nd]
          by_cases c3 : hd.1 ∈ cellsL w h ∧ lof B s c hd.1 = p.1
          · rw [if_pos c3, if_pos c3]
            refine (nin_bind (q := hif B s c hd.2 = p.2) fun m => ?_).trans ?_
            · refine (at_hi rB (mem_cells.1 m) _).trans ?_
              rw [show m_steps c hd.2 = some (dst c hd.2) from rfl, Option.bind_some, ck_pos (mulOk_l s0 (by omega))]
              rfl
            rw [ite_nd]
            by_cases c4 : hd.2 ∈ cellsL w h ∧ hif B s c hd.2 = p.2
            · rw [if_pos c4, if_pos c4]
            · rw [if_neg c4, if_neg c4]; rfl
          · rw [if_neg c3, if_neg c3]; rfl
theorem lcell_ok (rB : Rc B w h) {T : List (List (Int × Int))} (rT : Rc T w h) {H : List (List (Cl × Cl))} (rH : Rc H w h) (h1 : 1 ≤ h) (hw : w ≤ 5) (hh : h ≤ 5) (s0 : 0 ≤ s) (s3 : s ≤ 3) {c : Cl} (i : Ins w h c) : m__law_cell_fault B s T H c = some (cellR B s w h T (gt ((0, 0), (0, 0)) H c) c) := by
  unfold m__law_cell_fault cellR
  dsimp only
  refine (rT.at (0, 0) i _).trans ?_
  generalize hp : gt (0, 0) T c = p
  generalize hd0 : gt ((0, 0), (0, 0)) H c = hd
  obtain ⟨e0, l0⟩ := rT.row (y := 0) (by decide) (by omega)
  rw [ite_d]
  by_cases c1 : p.2 < p.1
  · rw [if_pos c1, if_pos c1]; rfl
  · rw [if_neg c1, if_neg c1]
    have z1 : ((atI B c.2).bind fun y663 => (atI y663 c.1).bind fun y665 => if (decide (p.1 < y665.1)) = true then some true else ((atI B c.2).bind fun y669 => (atI y669 c.1).bind fun y671 => some (decide (y671.2 < p.2)))) = some (decide (p.1 < lw B c ∨ hg B c < p.2)) := by
      refine (rB.at (0, 0) i _).trans ?_
      rw [show ((atI B c.2).bind fun y669 => (atI y669 c.1).bind fun y671 => some (decide (y671.2 < p.2))) = some (decide (hg B c < p.2)) from rB.at (0, 0) i _]
      exact or_some
    refine bind_eq_of z1 ?_
    rw [ite_d]
    by_cases c2 : p.1 < lw B c ∨ hg B c < p.2
    · rw [if_pos c2, if_pos c2]; rfl
    · rw [if_neg c2, if_neg c2]
      refine (forO_find (stB T s w h p) (fun o => wc2 "step" c o) (nxt c) fun o mo kc => ?_).trans ?_
      · rw [e0, Option.bind_some, l0, rT.lh]
        by_cases q1 : o.1 < (w : Int)
        · by_cases q2 : o.2 < (h : Int)
          · have io := nxt_ins i mo ⟨q1, q2⟩
            rw [decide_eq_true q1, decide_eq_true q2, ite_t, Option.bind_some, ite_t]
            have z2 : ((atI T o.2).bind fun y700 => (atI y700 o.1).bind fun y702 => if (decide (s < ab (p.1 - y702.1))) = true then some true else ((atI T o.2).bind fun y707 => (atI y707 o.1).bind fun y709 => some (decide (s < ab (p.2 - y709.2))))) = some (decide (s < ab (p.1 - (gt (0, 0) T o).1) ∨ s < ab (p.2 - (gt (0, 0) T o).2))) := by
              refine (rT.at (0, 0) io _).trans ?_
              rw [show ((atI T o.2).bind fun y707 => (atI y707 o.1).bind fun y709 => some (decide (s < ab (p.2 - y709.2)))) = some (decide (s < ab (p.2 - (gt (0, 0) T o).2))) from rT.at (0, 0) io _]
              exact or_some
            refine bind_eq_of z2 ?_
            unfold stB
            rw [ite_d, ite_d]
            by_cases q3 : s < ab (p.1 - (gt (0, 0) T o).1) ∨ s < ab (p.2 - (gt (0, 0) T o).2)
            · rw [if_pos q3, if_pos ⟨⟨q1, q2⟩, q3⟩]; rfl
            · rw [if_neg q3, if_neg (fun z => q3 z.2)]
          · rw [decide_eq_true q1, decide_eq_false q2, ite_t, Option.bind_some, ite_f]
            unfold stB
            rw [ite_d, if_neg (fun z => q2 z.1.2)]
        · rw [decide_eq_false q1, ite_f, Option.bind_some, ite_f]
          unfold stB
          rw [ite_d, if_neg (fun z => q1 z.1.1)]
      · cases (nxt c).find? (stB T s w h p) with
        | some o => rfl
        | none =>
          simp only [Option.elim_none]
          rw [lcells_ok rB h1 hw hh, Option.bind_some]
          refine (rH.at ((0, 0), (0, 0)) i _).trans ?_
          rw [hd0]
          refine (nin_bind (q := lof B s c hd.1 = p.1) fun m => ?_).trans ?_
          · refine (rB.at (0, 0) (mem_cells.1 m) _).trans ?_
            rw [show m__law_steps c hd.1 = some (dst c hd.1) from rfl, Option.bind_some, ck_pos (mulOk_l s0 (by omega))]
            rfl
          rw [ite_nd]
          by_cases c3 : hd.1 ∈ cellsL w h ∧ lof B s c hd.1 = p.1
          · rw [if_pos c3, if_pos c3]
            refine (nin_bind (q := hif B s c hd.2 = p.2) fun m => ?_).trans ?_
            · refine (rB.at (0, 0) (mem_cells.1 m) _).trans ?_
              rw [show m__law_steps c hd.2 = some (dst c hd.2) from rfl, Option.bind_some, ck_pos (mulOk_l s0 (by omega))]
              rfl
            rw [ite_nd]
            by_cases c4 : hd.2 ∈ cellsL w h ∧ hif B s c hd.2 = p.2
            · rw [if_pos c4, if_pos c4]
            · rw [if_neg c4, if_neg c4]; rfl
          · rw [if_neg c3, if_neg c3]; rfl
/-- the fault of a crossing -/
def crsR (B : List (List Cl)) (s : Int) (w h : Nat) (p : Cl × Cl) : PyData := if p.1 ∈ cellsL w h ∧ p.2 ∈ cellsL w h then (if isX B s p.1 p.2 = true then .none else wd "cross") else wd "cells"
theorem two_in {Ω : Type} {a b : Cl} {L : List Cl} {K : Bool → Option Ω} : ((if (!inB a L) = true then some true else some (!inB b L)).bind K) = K (!decide (a ∈ L ∧ b ∈ L)) :=
  nin_bind fun _ => by
    congr 1; congr 1
    by_cases m : b ∈ L
    · rw [decide_eq_true m, inB_iff.2 m]
    · rw [decide_eq_false m]
      cases e : inB b L with
      | false => rfl
      | true => exact absurd (inB_iff.1 e) m
theorem pcross_ok (rB : Rc B w h) (h1 : 1 ≤ h) (hw : w ≤ 5) (hh : h ≤ 5) (s0 : 0 ≤ s) (s3 : s ≤ 3) (p : Cl × Cl) : m_tighten_fault B s (crsD p) = some (crsR B s w h p) := by
  unfold m_tighten_fault
  rw [pcells_ok rB h1 hw hh, Option.bind_some]
  dsimp only
  rw [show partD (crsD p) 0 = some (.str "cross") from rfl, Option.bind_some, show deS (.str "cross") = some ("cross" : Str) from rfl, Option.bind_some, decide_eq_true rfl, ite_t]
  rw [show (deT3 deS (deT2 deI deI) (deT2 deI deI)) (crsD p) = some (("cross" : Str), p.1, p.2) from (dcT3 dcS (dcT2 dcI dcI) (dcT2 dcI dcI)).rt ("cross", p.1, p.2), Option.bind_some]
  refine two_in.trans ?_
  unfold crsR
  rw [ite_nd]
  by_cases c : p.1 ∈ cellsL w h ∧ p.2 ∈ cellsL w h
  · rw [if_pos c, if_pos c]
    refine (at_lo rB (mem_cells.1 c.1) _).trans ?_
    rw [show m_steps p.1 p.2 = some (dst p.1 p.2) from rfl, Option.bind_some, ck_pos (mulOk_l s0 (by omega))]
    refine (at_hi rB (mem_cells.1 c.2) _).trans ?_
    show Option.bind (if isX B s p.1 p.2 = true then _ else _) _ = _
    cases isX B s p.1 p.2 <;> rfl
  · rw [if_neg c, if_neg c]; rfl
theorem lcross_ok (rB : Rc B w h) (h1 : 1 ≤ h) (hw : w ≤ 5) (hh : h ≤ 5) (s0 : 0 ≤ s) (s3 : s ≤ 3) (p : Cl × Cl) : m__law_fault B s (crsD p) = some (crsR B s w h p) := by
  unfold m__law_fault
  rw [lcells_ok rB h1 hw hh, Option.bind_some]
  dsimp only
  rw [show partD (crsD p) 0 = some (.str "cross") from rfl, Option.bind_some, show deS (.str "cross") = some ("cross" : Str) from rfl, Option.bind_some, decide_eq_true rfl, ite_t]
  rw [show partD (crsD p) 1 = some ((eT2 eI eI).enc p.1) from rfl, Option.bind_some, show (deT2 deI deI) ((eT2 eI eI).enc p.1) = some p.1 from (dcT2 dcI dcI).rt _, Option.bind_some]
  rw [show partD (crsD p) 2 = some ((eT2 eI eI).enc p.2) from rfl, Option.bind_some, show (deT2 deI deI) ((eT2 eI eI).enc p.2) = some p.2 from (dcT2 dcI dcI).rt _, Option.bind_some]
  refine two_in.trans ?_
  unfold crsR
  rw [ite_nd]
  by_cases c : p.1 ∈ cellsL w h ∧ p.2 ∈ cellsL w h
  · rw [if_pos c, if_pos c]
    refine (rB.at (0, 0) (mem_cells.1 c.1) _).trans ?_
    rw [show m__law_steps p.1 p.2 = some (dst p.1 p.2) from rfl, Option.bind_some, ck_pos (mulOk_l s0 (by omega))]
    refine (rB.at (0, 0) (mem_cells.1 c.2) _).trans ?_
    show Option.bind (if isX B s p.1 p.2 = true then _ else _) _ = _
    cases isX B s p.1 p.2 <;> rfl
  · rw [if_neg c, if_neg c]; rfl
/-- the fault of tables -/
def fmB {α : Type} (w h : Nat) (T : List (List α)) : Bool := !(decide (T.length = h) && T.all fun r => decide (r.length = w))
theorem fmB_rc {α : Type} {T : List (List α)} (e : fmB w h T = false) : Rc T w h := by
  unfold fmB at e
  rw [Bool.not_eq_false', Bool.and_eq_true, List.all_eq_true] at e
  exact ⟨of_decide_eq_true e.1, fun r m => of_decide_eq_true (e.2 r m)⟩
theorem rc_fmB {α : Type} {T : List (List α)} (r : Rc T w h) : fmB w h T = false := by
  unfold fmB
  rw [Bool.not_eq_false', Bool.and_eq_true, List.all_eq_true]
  exact ⟨decide_eq_true r.lh, fun q m => decide_eq_true (r.lw q m)⟩
theorem fmB_map {α β : Type} {T : List (List α)} (f : α → β) : fmB w h (T.map (List.map f)) = fmB w h T := by
  unfold fmB
  rw [List.length_map, List.all_map]
  congr 3
  funext r
  simp
def tgtR (B : List (List Cl)) (s : Int) (w h : Nat) (T : List (List (Int × Int))) (H : List (List (Cl × Cl))) : PyData :=
  if fmB w h T = true then wd "form" else if fmB w h H = true then wd "form" else
  ((cellsL w h).find? fun c => !isNone (cellR B s w h T (gt ((0, 0), (0, 0)) H c) c)).elim .none fun c => cellR B s w h T (gt ((0, 0), (0, 0)) H c) c
theorem pform {T : List (List PyData)} (rB : Rc B w h) (h1 : 1 ≤ h) (hT : T.length ≤ 1000) {Ω : Type} (K : Bool → Option Ω) : ((if (!decide ((List.length T : Int) = (List.length B : Int))) = true then some true else (compO T () (fun x412 (t411 : Unit) kc420 => (
        (atI B (0 : Int)).bind fun y416 =>
        kc420 (some (decide ((List.length x412 : Int) = (List.length y416 : Int)))) ())) [] fun (ys418 : List Bool) (t419 : Unit) => (
        some (!(List.all ys418 id))))).bind K) = K (fmB w h T) := by
  have hS : (1000000 : Nat) ≤ SZ := by decide
  obtain ⟨e0, l0⟩ := rB.row (y := 0) (by decide) (by omega)
  rw [rB.lh]
  unfold fmB
  by_cases c : T.length = h
  · rw [decide_eq_true (show (T.length : Int) = (h : Int) by omega), ite_nt, decide_eq_true c, Bool.true_and]
    have z := compO_map (Ω := Bool) (k := fun (ys418 : List Bool) (t419 : Unit) => some (!(List.all ys418 id))) (b := fun x412 (t411 : Unit) kc420 => (
        (atI B (0 : Int)).bind fun y416 =>
        kc420 (some (decide ((List.length x412 : Int) = (List.length y416 : Int)))) ())) (fun r : List PyData => decide (r.length = w)) () T [] (by simp; omega) fun r mr kc => by
      rw [e0, Option.bind_some, l0]
      congr 2
      rw [decide_eq_decide]
      omega
    refine (congrArg (fun o => Option.bind o K) z).trans ?_
    rw [List.nil_append, Option.bind_some, List.all_map]
    rfl
  · rw [decide_eq_false (show ¬ (T.length : Int) = (h : Int) by omega), ite_nf, decide_eq_false c]; rfl
theorem lform {T : List (List PyData)} (rB : Rc B w h) (h1 : 1 ≤ h) (hT : T.length ≤ 1000) {Ω : Type} (K : Bool → Option Ω) : ((if (!decide ((List.length T : Int) = (List.length B : Int))) = true then some true else (compO T () (fun x835 (t834 : Unit) kc843 => (
        (atI B (0 : Int)).bind fun y838 =>
        if (!decide ((List.length x835 : Int) = (List.length y838 : Int))) = true then (kc843 (some x835) ()) else kc843 none ())) [] fun (ys841 : List (List PyData)) (t842 : Unit) => (
        some (decide ((0 : Int) < (List.length ys841 : Int)))))).bind K) = K (fmB w h T) := by
  have hS : (1000000 : Nat) ≤ SZ := by decide
  obtain ⟨e0, l0⟩ := rB.row (y := 0) (by decide) (by omega)
  rw [rB.lh]
  unfold fmB
  by_cases c : T.length = h
  · rw [decide_eq_true (show (T.length : Int) = (h : Int) by omega), ite_nt, decide_eq_true c, Bool.true_and]
    have z := compO_filterMap (Ω := Bool) (k := fun (ys841 : List (List PyData)) (t842 : Unit) => some (decide ((0 : Int) < (List.length ys841 : Int)))) (b := fun x835 (t834 : Unit) kc843 => (
        (atI B (0 : Int)).bind fun y838 =>
        if (!decide ((List.length x835 : Int) = (List.length y838 : Int))) = true then (kc843 (some x835) ()) else kc843 none ())) (fun r : List PyData => if r.length = w then none else some r) () T [] (by simp; omega) fun r mr kc => by
      rw [e0, Option.bind_some, l0, ite_nd]
      by_cases q : r.length = w
      · rw [if_pos q, if_pos (by omega)]
      · rw [if_neg q, if_neg (by omega)]
    refine (congrArg (fun o => Option.bind o K) z).trans ?_
    rw [List.nil_append, Option.bind_some]
    congr 1
    cases e : (T.all fun r => decide (r.length = w)) with
    | true =>
      have : T.filterMap (fun r : List PyData => if r.length = w then none else some r) = [] := List.filterMap_eq_nil_iff.2 fun r m => if_pos (of_decide_eq_true (List.all_eq_true.1 e r m))
      rw [this]; rfl
    | false =>
      obtain ⟨r, m, q⟩ := List.all_eq_false.1 e
      have q : ¬ r.length = w := fun z => q (decide_eq_true z)
      have := List.length_pos_of_mem (List.mem_filterMap.2 ⟨r, m, if_neg q⟩ : r ∈ T.filterMap (fun r : List PyData => if r.length = w then none else some r))
      exact decide_eq_true (by omega)
  · rw [decide_eq_false (show ¬ (T.length : Int) = (h : Int) by omega), ite_nf, decide_eq_false c]; rfl
theorem isN_iff {d : PyData} : (!isNone (eD.enc d)) = !isNone d := rfl
theorem ptight_ok (rB : Rc B w h) (h1 : 1 ≤ h) (hw : w ≤ 5) (hh : h ≤ 5) (s0 : 0 ≤ s) (s3 : s ≤ 3) (T : List (List (Int × Int))) (H : List (List (Cl × Cl))) (hT : T.length ≤ 1000) (hH : H.length ≤ 1000) : m_tighten_fault B s (tgtD T H) = some (tgtR B s w h T H) := by
  unfold m_tighten_fault
  rw [pcells_ok rB h1 hw hh, Option.bind_some]
  dsimp only
  rw [show partD (tgtD T H) 0 = some (.str "tight") from rfl, Option.bind_some, show deS (.str "tight") = some ("tight" : Str) from rfl, Option.bind_some, decide_eq_false (by decide +kernel), ite_f]
  rw [show (deT3 deS (deL (deL (deT2 deI deI))) (deL (deL (deT2 (deT2 deI deI) (deT2 deI deI))))) (tgtD T H) = some (("tight" : Str), T, H) from (dcT3 dcS (dcL (dcL (dcT2 dcI dcI))) (dcL (dcL (dcT2 (dcT2 dcI dcI) (dcT2 dcI dcI))))).rt ("tight", T, H), Option.bind_some]
  dsimp only
  refine (forO_find (fmB w h) (fun _ => wd "form") _ fun rows mr kc => ?_).trans ?_
  · have hr : rows.length ≤ 1000 := by
      simp only [List.mem_cons, List.not_mem_nil, or_false] at mr
      rcases mr with rfl | rfl <;> rw [List.length_map] <;> assumption
    exact pform rB h1 hr _
  · unfold tgtR
    rw [List.find?_cons, fmB_map]
    cases eT : fmB w h T with
    | true => rfl
    | false =>
      rw [List.find?_cons, fmB_map]
      cases eH : fmB w h H with
      | true => rfl
      | false =>
        rw [List.find?_nil]
        simp only [Option.elim_none]
        rw [ite_f, ite_f]
        have rT := fmB_rc eT
        have rH := fmB_rc eH
        refine (forO_find (fun c => !isNone (cellR B s w h T (gt ((0, 0), (0, 0)) H c) c)) (fun c => cellR B s w h T (gt ((0, 0), (0, 0)) H c) c) _ fun c mc kc => ?_).trans ?_
        · have i := mem_cells.1 mc
          rw [at_ok ((0, 0), (0, 0)) _ rH i, Option.bind_some, show (deT2 (deT2 deI deI) (deT2 deI deI)) ((eT2 (eT2 eI eI) (eT2 eI eI)).enc (gt ((0, 0), (0, 0)) H c)) = some (gt ((0, 0), (0, 0)) H c) from (dcT2 (dcT2 dcI dcI) (dcT2 dcI dcI)).rt _, Option.bind_some]
          rw [pcell_ok rB rT h1 hw hh s0 s3 _ i, Option.bind_some]
          rfl
        · cases (cellsL w h).find? fun c => !isNone (cellR B s w h T (gt ((0, 0), (0, 0)) H c) c) <;> rfl
theorem ltight_ok (rB : Rc B w h) (h1 : 1 ≤ h) (hw : w ≤ 5) (hh : h ≤ 5) (s0 : 0 ≤ s) (s3 : s ≤ 3) (T : List (List (Int × Int))) (H : List (List (Cl × Cl))) (hT : T.length ≤ 1000) (hH : H.length ≤ 1000) : m__law_fault B s (tgtD T H) = some (tgtR B s w h T H) := by
  unfold m__law_fault
  rw [lcells_ok rB h1 hw hh, Option.bind_some]
  dsimp only
  rw [show partD (tgtD T H) 0 = some (.str "tight") from rfl, Option.bind_some, show deS (.str "tight") = some ("tight" : Str) from rfl, Option.bind_some, decide_eq_false (by decide +kernel), ite_f]
  rw [show (deT3 deS (deL (deL (deT2 deI deI))) (deL (deL (deT2 (deT2 deI deI) (deT2 deI deI))))) (tgtD T H) = some (("tight" : Str), T, H) from (dcT3 dcS (dcL (dcL (dcT2 dcI dcI))) (dcL (dcL (dcT2 (dcT2 dcI dcI) (dcT2 dcI dcI))))).rt ("tight", T, H), Option.bind_some]
  dsimp only
  refine (forO_find (fmB w h) (fun _ => wd "form") _ fun rows mr kc => ?_).trans ?_
  · have hr : rows.length ≤ 1000 := by
      simp only [List.mem_cons, List.not_mem_nil, or_false] at mr
      rcases mr with rfl | rfl <;> rw [List.length_map] <;> assumption
    exact lform rB h1 hr _
  · unfold tgtR
    rw [List.find?_cons, fmB_map]
    cases eT : fmB w h T with
    | true => rfl
    | false =>
      rw [List.find?_cons, fmB_map]
      cases eH : fmB w h H with
      | true => rfl
      | false =>
        rw [List.find?_nil]
        simp only [Option.elim_none]
        rw [ite_f, ite_f]
        have rT := fmB_rc eT
        have rH := fmB_rc eH
        refine (forO_find (fun c => !isNone (cellR B s w h T (gt ((0, 0), (0, 0)) H c) c)) (fun c => cellR B s w h T (gt ((0, 0), (0, 0)) H c) c) _ fun c mc kc => ?_).trans ?_
        · have i := mem_cells.1 mc
          rw [lcell_ok rB rT rH h1 hw hh s0 s3 i, Option.bind_some]
          rfl
        · cases (cellsL w h).find? fun c => !isNone (cellR B s w h T (gt ((0, 0), (0, 0)) H c) c) <;> rfl
/-- what tighten tells is right -/
theorem right_ok (rB : Rc B w h) (w1 : 1 ≤ w) (h1 : 1 ≤ h) (s0 : 0 ≤ s) (e : crs B s w h = none) : tgtR B s w h (tbT B s w h) (tbH B s w h) = .none := by
  have rT : Rc (tbT B s w h) w h := tab_rc ..
  have rH : Rc (tbH B s w h) w h := tab_rc ..
  unfold tgtR
  rw [rc_fmB rT, rc_fmB rH, ite_f, ite_f]
  have : ((cellsL w h).find? fun c => !isNone (cellR B s w h (tbT B s w h) (gt ((0, 0), (0, 0)) (tbH B s w h) c) c)) = none := by
    refine List.find?_eq_none.2 fun c mc => ?_
    have i := mem_cells.1 mc
    have gT : ∀ {c}, Ins w h c → gt (0, 0) (tbT B s w h) c = ((loV B s w h c).1, (hiV B s w h c).1) := fun i => tab_gt _ i
    have gH : gt ((0, 0), (0, 0)) (tbH B s w h) c = ((loV B s w h c).2, (hiV B s w h c).2) := tab_gt _ i
    obtain ⟨_, lm, le, la, _⟩ := loV_spec (B := B) (s := s) w1 h1 c
    obtain ⟨_, hm, he, ha, _⟩ := hiV_spec (B := B) (s := s) w1 h1 c
    have mul : ∀ {x y : Int}, x ≤ y → s * x ≤ s * y := fun q => Int.mul_le_mul_of_nonneg_left q s0
    have z : cellR B s w h (tbT B s w h) (gt ((0, 0), (0, 0)) (tbH B s w h) c) c = .none := by
      unfold cellR
      rw [gH, gT i]
      dsimp only
      have o1 : (loV B s w h c).1 ≤ (hiV B s w h c).1 := by
        have x := crs_none e (mem_cells.1 lm) (mem_cells.1 hm)
        have t := mul (dst_tri (loV B s w h c).2 c (hiV B s w h c).2)
        rw [Int.mul_add] at t
        unfold lof at le; unfold hif at he
        omega
      have o2 : lw B c ≤ (loV B s w h c).1 ∧ (hiV B s w h c).1 ≤ hg B c := by
        have a := la c mc; have b := ha c mc
        unfold lof at a; unfold hif at b
        rw [dst_self, Int.mul_zero] at a b
        omega
      rw [if_neg (by omega), if_neg (by omega)]
      have st : (nxt c).find? (stB (tbT B s w h) s w h ((loV B s w h c).1, (hiV B s w h c).1)) = none := by
        refine List.find?_eq_none.2 fun o mo => ?_
        intro q
        unfold stB at q
        have q := of_decide_eq_true q
        have io := nxt_ins i mo q.1
        rw [gT io] at q
        dsimp only at q
        have d1 : dst c o ≤ 1 ∧ dst o c ≤ 1 := by
          have : dst c o = 1 ∧ dst o c = 1 := by
            unfold nxt at mo
            simp only [List.mem_cons, List.not_mem_nil, or_false] at mo
            rcases mo with rfl | rfl
            · constructor <;> (unfold dst ab; dsimp only; split <;> split <;> omega)
            · constructor <;> (unfold dst ab; dsimp only; split <;> split <;> omega)
          omega
        obtain ⟨_, lm2, le2, la2, _⟩ := loV_spec (B := B) (s := s) w1 h1 o
        obtain ⟨_, hm2, he2, ha2, _⟩ := hiV_spec (B := B) (s := s) w1 h1 o
        have near : ∀ a b x : Cl, dst a b ≤ 1 → s * dst a x ≤ s + s * dst b x := fun a b x q => by
          have t := mul (dst_tri a b x)
          have u := mul q
          rw [dst_comm b a, Int.mul_add] at t
          rw [Int.mul_one] at u
          omega
        have a1 := la (loV B s w h o).2 lm2
        have a2 := la2 (loV B s w h c).2 lm
        have a3 := ha (hiV B s w h o).2 hm2
        have a4 := ha2 (hiV B s w h c).2 hm
        have n1 := near c o (loV B s w h o).2 d1.1
        have n2 := near o c (loV B s w h c).2 d1.2
        have n3 := near c o (hiV B s w h o).2 d1.1
        have n4 := near o c (hiV B s w h c).2 d1.2
        unfold lof at le le2 a1 a2
        unfold hif at he he2 a3 a4
        have ab1 : ∀ x : Int, x ≤ s → -x ≤ s → ¬ s < ab x := fun x p q => by unfold ab; split <;> omega
        rcases q.2 with q | q
        · exact ab1 _ (by omega) (by omega) q
        · exact ab1 _ (by omega) (by omega) q
      rw [st]
      simp only [Option.elim_none]
      rw [if_pos ⟨lm, le⟩, if_pos ⟨hm, he⟩]
    rw [z]
    decide
  rw [this]; rfl
theorem rightX_ok {p : Cl × Cl} (e : crs B s w h = some p) : crsR B s w h p = .none := by
  obtain ⟨a, b, c⟩ := crs_some e
  unfold crsR
  rw [if_pos ⟨a, b⟩, if_pos c]
end
/-! ### k50: what is bent, what is shown -/
theorem shaped_wc {x : Str} {c : Cl} (h : PyData.strOk x = true) : SeqAt.shaped (wc x c) = true := by
  simp [SeqAt.shaped, wc, eT2, eI, PyData.canLay0, PyData.canLayAll0, PyData.depth, PyData.depthAll, h]
theorem shaped_wc2 {x : Str} {c o : Cl} (h : PyData.strOk x = true) : SeqAt.shaped (wc2 x c o) = true := by
  simp [SeqAt.shaped, wc2, eT2, eI, PyData.canLay0, PyData.canLayAll0, PyData.depth, PyData.depthAll, h]
theorem cellR_sh {B : List (List Cl)} {s : Int} {w h : Nat} {T : List (List (Int × Int))} {hd : Cl × Cl} {c : Cl} : SeqAt.shaped (cellR B s w h T hd c) = true := by
  unfold cellR
  split
  · exact shaped_wc (by decide +kernel)
  · split
    · exact shaped_wc (by decide +kernel)
    · cases (nxt c).find? (stB T s w h (gt (0, 0) T c)) with
      | some o => exact shaped_wc2 (by decide +kernel)
      | none =>
        simp only [Option.elim_none]
        split
        · split
          · exact shaped_none
          · exact shaped_wc (by decide +kernel)
        · exact shaped_wc (by decide +kernel)
theorem tgtR_sh {B : List (List Cl)} {s : Int} {w h : Nat} {T : List (List (Int × Int))} {H : List (List (Cl × Cl))} : SeqAt.shaped (tgtR B s w h T H) = true := by
  unfold tgtR
  split
  · exact shaped_wd (by decide +kernel)
  · split
    · exact shaped_wd (by decide +kernel)
    · cases (cellsL w h).find? fun c => !isNone (cellR B s w h T (gt ((0, 0), (0, 0)) H c) c) with
      | none => exact shaped_none
      | some c => exact cellR_sh
theorem crsR_sh {B : List (List Cl)} {s : Int} {w h : Nat} {p : Cl × Cl} : SeqAt.shaped (crsR B s w h p) = true := by
  unfold crsR
  split
  · split
    · exact shaped_none
    · exact shaped_wd (by decide +kernel)
  · exact shaped_wd (by decide +kernel)
/-- small tables -/
def Sml {α : Type} (Q : α → Prop) (T : List (List α)) : Prop := T.length ≤ 5 ∧ ∀ r ∈ T, r.length ≤ 5 ∧ ∀ p ∈ r, Q p
theorem Sml.get {α : Type} {Q : α → Prop} {T : List (List α)} (h : Sml Q T) (n : Nat) : (T.getD n []).length ≤ 5 ∧ ∀ p ∈ T.getD n [], Q p := by
  rw [List.getD_eq_getElem?_getD]
  cases e : T[n]? with
  | none => exact ⟨Nat.zero_le _, fun p m => nomatch m⟩
  | some r => exact h.2 r (List.mem_of_getElem? e)
theorem Sml.set {α : Type} {Q : α → Prop} {T : List (List α)} (h : Sml Q T) (n m : Nat) {v : α} (hv : Q v) : Sml Q (T.set n ((T.getD n []).set m v)) := by
  refine ⟨by rw [List.length_set]; exact h.1, fun r mr => ?_⟩
  rcases List.mem_or_eq_of_mem_set mr with mr | rfl
  · exact h.2 r mr
  · refine ⟨by rw [List.length_set]; exact (h.get n).1, fun p mp => ?_⟩
    rcases List.mem_or_eq_of_mem_set mp with mp | rfl
    · exact (h.get n).2 p mp
    · exact hv
def Pb (k : Int) (p : Int × Int) : Prop := (-k ≤ p.1 ∧ p.1 ≤ k) ∧ -k ≤ p.2 ∧ p.2 ≤ k
def Hb (p : Cl × Cl) : Prop := Pb 100 p.1 ∧ Pb 100 p.2
theorem pb_sh {p : Int × Int} (h : Pb 100 p) : Sh 1 2 ((eT2 eI eI).enc p) := by
  unfold Pb at h
  have : (101 : Nat) ≤ 10 ^ 12 := by decide
  exact shT (shpC (shI (by omega)) (shpC (shI (by omega)) shp0))
theorem hb_sh {p : Cl × Cl} (h : Hb p) : Sh 2 6 ((eT2 (eT2 eI eI) (eT2 eI eI)).enc p) := shT (shpC (pb_sh h.1) (shpC (pb_sh h.2) shp0))
theorem sml_sh {α : Type} {E : Enc α} {Q : α → Prop} {k m : Nat} {T : List (List α)} (h : Sml Q T) (hq : ∀ p, Q p → Sh k m (E.enc p)) : Sh (k + 1 + 1) (5 * (5 * (m + 1) + 1)) ((eL (eL E)).enc T) :=
  shL (fun d md => by
    obtain ⟨r, mr, rfl⟩ := List.mem_map.1 md
    exact shL (fun d md => by
      obtain ⟨p, mp, rfl⟩ := List.mem_map.1 md
      exact hq p ((h.2 r mr).2 p mp)) (by rw [List.length_map]; exact (h.2 r mr).1)) (by rw [List.length_map]; exact h.1)
theorem swd {s : Str} (h1 : PyData.strOk s = true) (h2 : (s.cps.toList.all fun c => decide (c < 16 ^ 8)) = true) (h3 : s.cps.size ≤ 20) : Sh 0 20 (.str s) := shS h1 h2 h3
inductive Good : PyData → Prop
  | crs {p : Cl × Cl} : Hb p → Good (crsD p)
  | tgt {T : List (List (Int × Int))} {H : List (List (Cl × Cl))} : Sml (Pb 100) T → Sml Hb H → Good (tgtD T H)
theorem Good.repr {d : PyData} (g : Good d) : reprO d = some d.shown := by
  cases g with
  | crs h => exact (shT (shpC (swd (s := "cross") (by decide +kernel) (by decide +kernel) (by decide +kernel)) (shpC (pb_sh h.1) (shpC (pb_sh h.2) shp0)))).repr
  | tgt h1 h2 => exact (shT (shpC (swd (s := "tight") (by decide +kernel) (by decide +kernel) (by decide +kernel)) (shpC (sml_sh h1 fun p => pb_sh) (shpC (sml_sh h2 fun p => hb_sh) shp0)))).repr
section
variable {B : List (List Cl)} {w h : Nat} {s : Int}
theorem Good.faults {d : PyData} (g : Good d) (rB : Rc B w h) (h1 : 1 ≤ h) (hw : w ≤ 5) (hh : h ≤ 5) (s0 : 0 ≤ s) (s3 : s ≤ 3) : ∃ r, m_tighten_fault B s d = some r ∧ m__law_fault B s d = some r ∧ SeqAt.shaped r = true := by
  cases g with
  | @crs p _ => exact ⟨_, pcross_ok rB h1 hw hh s0 s3 p, lcross_ok rB h1 hw hh s0 s3 p, crsR_sh⟩
  | @tgt T H a b => exact ⟨_, ptight_ok rB h1 hw hh s0 s3 T H (by have := a.1; omega) (by have := b.1; omega), ltight_ok rB h1 hw hh s0 s3 T H (by have := a.1; omega) (by have := b.1; omega), tgtR_sh⟩
/-- a told thing -/
inductive Told (w h : Nat) : PyData → Prop
  | crs {p : Cl × Cl} : Hb p → Told w h (crsD p)
  | tgt {T : List (List (Int × Int))} {H : List (List (Cl × Cl))} : Rc T w h → Rc H w h → Sml (Pb 50) T → Sml Hb H → Told w h (tgtD T H)
theorem Pb.mono {k l : Int} {p : Int × Int} (a : Pb k p) (q : k ≤ l) : Pb l p := by unfold Pb at *; omega
theorem Sml.imp {α : Type} {Q R : α → Prop} {T : List (List α)} (a : Sml Q T) (i : ∀ p, Q p → R p) : Sml R T := ⟨a.1, fun r m => ⟨(a.2 r m).1, fun p mp => i p ((a.2 r m).2 p mp)⟩⟩
theorem Told.good {d : PyData} (t : Told w h d) : Good d := by
  cases t with
  | crs h => exact .crs h
  | tgt _ _ a b => exact .tgt (a.imp fun p q => q.mono (by decide)) b
theorem copyL {α : Type} {Ω : Type} {T : List α} (hT : T.length ≤ 1000) (K : List α → Unit → Option Ω) : compO T () (fun x (t : Unit) kc => (kc (some x) ())) [] K = K T () := by
  have hS : (1000000 : Nat) ≤ SZ := by decide
  refine (compO_map id () _ [] (by simp; omega) fun _ _ _ => rfl).trans ?_
  rw [List.nil_append, List.map_id]
theorem bent_ok {t : TSt} (ht : t.2 ≠ []) (rB : Rc B w h) (w1 : 1 ≤ w) (h1 : 1 ≤ h) (hw : w ≤ 5) (hh : h ≤ 5) {d : PyData} (td : Told w h d) : ∃ r, m__law_bent t B d = some r ∧ r.2.2 ≠ [] ∧ Good r.1 := by
  have hS : (1000000 : Nat) ≤ SZ := by decide
  have hc : (cellsL w h).length ≤ 25 := by
    rw [cells_len]; exact Nat.le_trans (Nat.mul_le_mul hw hh) (by decide)
  unfold m__law_bent
  rw [lcells_ok rB h1 hw hh, Option.bind_some, take_eq]
  dsimp only
  rw [ck_pos (decide_eq_true (by simp; omega))]
  generalize hC : cellsL w h ++ [((9 : Int), (9 : Int))] = C
  have lC : 1 ≤ C.length ∧ C.length ≤ 26 := by subst hC; simp; omega
  have bC : ∀ (n : Nat) (hn : n < C.length), Pb 100 C[n] := fun n hn => by
    have m : C[n] ∈ cellsL w h ++ [((9 : Int), (9 : Int))] := by rw [hC]; exact List.getElem_mem hn
    rcases List.mem_append.1 m with m | m
    · have := mem_cells.1 m
      unfold Ins at this
      unfold Pb; omega
    · simp at m; rw [m]; unfold Pb; omega
  have cross : ∀ j : TSt, j.2 ≠ [] → ∃ r, ((takeM j (C.length : Int)).bind fun r930 =>
    (atI C r930.1).bind fun y931 =>
    (takeM r930.2 (C.length : Int)).bind fun r935 =>
    (atI C r935.1).bind fun y936 =>
    some (PyData.tuple [PyData.str ("cross" : Str), ((eT2 eI eI).enc y931), ((eT2 eI eI).enc y936)], r935.2)) = some r ∧ r.2.2 ≠ [] ∧ Good r.1 := fun j hj => by
    obtain ⟨v, t1, e1, a1, b1, ht1⟩ := take_ok (m := (C.length : Int)) hj (by omega) (by omega)
    rw [e1, Option.bind_some]
    dsimp only
    obtain ⟨n, hn, rfl, en⟩ := atI_pos (xs := C) a1 b1
    rw [en, Option.bind_some]
    obtain ⟨v, t2, e2, a2, b2, ht2⟩ := take_ok (m := (C.length : Int)) ht1 (by omega) (by omega)
    rw [e2, Option.bind_some]
    dsimp only
    obtain ⟨n2, hn2, rfl, en2⟩ := atI_pos (xs := C) a2 b2
    rw [en2, Option.bind_some]
    exact ⟨_, rfl, ht2, Good.crs (p := (C[n], C[n2])) ⟨bC n hn, bC n2 hn2⟩⟩
  cases td with
  | @crs p hp =>
    rw [show partD (crsD p) 0 = some (.str "cross") from rfl, Option.bind_some, show deS (.str "cross") = some ("cross" : Str) from rfl, Option.bind_some, decide_eq_true rfl, ite_t, ite_t]
    exact cross t ht
  | @tgt T H rT rH sT sH =>
    rw [show partD (tgtD T H) 0 = some (.str "tight") from rfl, Option.bind_some, show deS (.str "tight") = some ("tight" : Str) from rfl, Option.bind_some, decide_eq_false (by decide +kernel), ite_f]
    obtain ⟨v, t1, e1, a1, b1, ht1⟩ := take_ok (m := 8) ht (by decide) (by decide)
    rw [e1, Option.bind_some]
    dsimp only
    rw [ite_d]
    by_cases c0 : v = 0
    · rw [if_pos c0]; exact cross t1 ht1
    · rw [if_neg c0]
      rw [show partD (tgtD T H) 1 = some ((eL (eL (eT2 eI eI))).enc T) from rfl, Option.bind_some, show (deL (deL (deT2 deI deI))) ((eL (eL (eT2 eI eI))).enc T) = some T from (dcL (dcL (dcT2 dcI dcI))).rt T, Option.bind_some]
      rw [copyL (by have := sT.1; omega)]
      rw [show partD (tgtD T H) 2 = some ((eL (eL (eT2 (eT2 eI eI) (eT2 eI eI)))).enc H) from rfl, Option.bind_some, show (deL (deL (deT2 (deT2 deI deI) (deT2 deI deI)))) ((eL (eL (eT2 (eT2 eI eI) (eT2 eI eI)))).enc H) = some H from (dcL (dcL (dcT2 (dcT2 dcI dcI) (dcT2 dcI dcI)))).rt H, Option.bind_some]
      rw [copyL (by have := sH.1; omega)]
      have lT := rT.lh
      have lH := rH.lh
      have rl : ∀ {α : Type} {Q : List (List α)}, Rc Q w h → ∀ n, n < Q.length → (Q.getD n []).length = w := fun r n hn => by
        rw [List.getD_eq_getElem?_getD, List.getElem?_eq_getElem hn]
        exact r.lw _ (List.getElem_mem hn)
      rw [show ixN T.length (0 : Int) = some 0 from ixN_nat (i := 0) (by omega), Option.bind_some, rl rT 0 (by omega)]
      obtain ⟨x, t2, e2, a2, b2, ht2⟩ := take_ok (m := (w : Int)) ht1 (by omega) (by omega)
      rw [e2, Option.bind_some]
      dsimp only
      obtain ⟨y, t3, e3, a3, b3, ht3⟩ := take_ok (m := (T.length : Int)) ht2 (by omega) (by omega)
      rw [e3, Option.bind_some]
      dsimp only
      obtain ⟨k, t4, e4, a4, b4, ht4⟩ := take_ok (m := 6) ht3 (by omega) (by omega)
      rw [e4, Option.bind_some]
      dsimp only
      obtain ⟨ny, rfl⟩ := Int.eq_ofNat_of_zero_le a3
      obtain ⟨nx, rfl⟩ := Int.eq_ofNat_of_zero_le a2
      have iT : ixN T.length (ny : Int) = some ny := ixN_nat (by omega)
      have iH : ixN H.length (ny : Int) = some ny := ixN_nat (by omega)
      have lTr := rl rT ny (by omega)
      have lHr := rl rH ny (by omega)
      have jT : ixN (T.getD ny []).length (nx : Int) = some nx := ixN_nat (by omega)
      have jH : ixN (H.getD ny []).length (nx : Int) = some nx := ixN_nat (by omega)
      have aT : atI (T.getD ny []) (nx : Int) = some ((T.getD ny [])[nx]'(by omega)) := Z.atI_nat (by omega)
      have aH : atI (H.getD ny []) (nx : Int) = some ((H.getD ny [])[nx]'(by omega)) := Z.atI_nat (by omega)
      have pT : Pb 50 ((T.getD ny [])[nx]'(by omega)) := (sT.get ny).2 _ (List.getElem_mem _)
      have pH : Hb ((H.getD ny [])[nx]'(by omega)) := (sH.get ny).2 _ (List.getElem_mem _)
      have sT' : Sml (Pb 100) T := sT.imp fun p q => q.mono (by decide)
      rw [ite_d]
      by_cases k3 : k < 3
      · rw [if_pos k3, iT, Option.bind_some, aT, Option.bind_some]
        obtain ⟨z, t5, e5, a5, b5, ht5⟩ := take_ok (m := 4) ht4 (by omega) (by omega)
        rw [e5, Option.bind_some]
        dsimp only
        generalize ((T.getD ny [])[nx]'(by omega)) = p at pT
        obtain ⟨q, eq, bq⟩ : ∃ q, atI ([((p.1 + (1 : Int)), p.2), ((p.1 - (1 : Int)), p.2), (p.1, (p.2 + (1 : Int))), (p.1, (p.2 - (1 : Int)))]) z = some q ∧ Pb 100 q := by
          unfold Pb at pT ⊢
          have : z = 0 ∨ z = 1 ∨ z = 2 ∨ z = 3 := by omega
          rcases this with rfl | rfl | rfl | rfl <;> exact ⟨_, rfl, by dsimp only; omega⟩
        rw [eq, Option.bind_some, Option.bind_some, jT, Option.bind_some]
        exact ⟨_, rfl, ht5, .tgt (sT'.set ny nx bq) sH⟩
      · rw [if_neg k3, ite_d]
        by_cases k4 : k = 3
        · rw [if_pos k4]
          obtain ⟨z, t5, e5, a5, b5, ht5⟩ := take_ok (m := (C.length : Int)) ht4 (by omega) (by omega)
          rw [e5, Option.bind_some]
          dsimp only
          obtain ⟨n, hn, rfl, en⟩ := atI_pos (xs := C) a5 b5
          rw [en, Option.bind_some, iH, Option.bind_some, aH, Option.bind_some, Option.bind_some, jH, Option.bind_some]
          exact ⟨_, rfl, ht5, .tgt sT' (sH.set ny nx ⟨bC n hn, pH.2⟩)⟩
        · rw [if_neg k4, ite_d]
          by_cases k5 : k = 4
          · rw [if_pos k5, iH, Option.bind_some, aH, Option.bind_some]
            obtain ⟨z, t5, e5, a5, b5, ht5⟩ := take_ok (m := (C.length : Int)) ht4 (by omega) (by omega)
            rw [e5, Option.bind_some]
            dsimp only
            obtain ⟨n, hn, rfl, en⟩ := atI_pos (xs := C) a5 b5
            rw [en, Option.bind_some, Option.bind_some, jH, Option.bind_some]
            exact ⟨_, rfl, ht5, .tgt sT' (sH.set ny nx ⟨pH.1, bC n hn⟩)⟩
          · rw [if_neg k5]
            obtain ⟨z, t5, e5, a5, b5, ht5⟩ := take_ok (m := 2) ht4 (by omega) (by omega)
            rw [e5, Option.bind_some]
            dsimp only
            rw [ite_d]
            have ct : ∀ {α : Type} (xs : List α), (cutL xs (some (1 : Int)) none).length ≤ xs.length ∧ ∀ p ∈ cutL xs (some (1 : Int)) none, p ∈ xs := fun xs => ⟨cutL_len _ _ _, fun p m => (cutL_sub xs _ _).subset m⟩
            by_cases k6 : z = 0
            · rw [if_pos k6]
              exact ⟨_, rfl, ht5, .tgt ⟨Nat.le_trans (ct T).1 sT'.1, fun r m => sT'.2 r ((ct T).2 r m)⟩ sH⟩
            · rw [if_neg k6, compO_map (fun r : List (Int × Int) => cutL r (some (1 : Int)) none) () _ [] (by have := sT.1; simp; omega) fun _ _ _ => rfl, List.nil_append]
              refine ⟨_, rfl, ht5, .tgt ⟨by rw [List.length_map]; exact sT'.1, fun r m => ?_⟩ sH⟩
              obtain ⟨q, mq, rfl⟩ := List.mem_map.1 m
              exact ⟨Nat.le_trans (ct q).1 (sT'.2 q mq).1, fun p mp => (sT'.2 q mq).2 p ((ct q).2 p mp)⟩
end
/-! ### k50: plates drawn cell by cell, the law -/
theorem atI_map {α β : Type} (f : α → β) (xs : List α) (i : Int) : atI (xs.map f) i = (atI xs i).map f := by
  unfold atI
  rw [List.length_map]
  cases ixN xs.length i with
  | none => rfl
  | some n => show (xs.map f)[n]? = (xs[n]?).map f; rw [List.getElem?_map]
theorem partD_at {α Ω : Type} (E : Enc α) (d : α) {T : List (List α)} {w h : Nat} (r : Rc T w h) {c : Cl} (i : Ins w h c) (K : PyData → Option Ω) : ((partD ((eL (eL E)).enc T) c.2).bind fun y => (partD y c.1).bind fun z => K z) = K (E.enc (gt d T c)) := by
  obtain ⟨h0, h1, h2, h3⟩ := i
  obtain ⟨e, l⟩ := r.row h2 h3
  show ((atI (T.map (eL E).enc) c.2).bind _) = _
  rw [atI_map, e, Option.map_some, Option.bind_some]
  show ((atI ((T.getD c.2.toNat []).map E.enc) c.1).bind _) = _
  rw [atI_map, at_getD d h0 (by omega), Option.map_some, Option.bind_some]
  rfl
def setC {α : Type} (P : List (List α)) (c : Cl) (v : α) : List (List α) := P.set c.2.toNat ((P.getD c.2.toNat []).set c.1.toNat v)
theorem setC_run {α : Type} {P : List (List α)} {w h : Nat} (r : Rc P w h) {c : Cl} (i : Ins w h c) : ixN P.length c.2 = some c.2.toNat ∧ ixN (P.getD c.2.toNat []).length c.1 = some c.1.toNat := by
  obtain ⟨h0, h1, h2, h3⟩ := i
  obtain ⟨x, y⟩ := c
  dsimp only at h0 h1 h2 h3 ⊢
  obtain ⟨a, rfl⟩ := Int.eq_ofNat_of_zero_le h0
  obtain ⟨b, rfl⟩ := Int.eq_ofNat_of_zero_le h2
  have hb : b < P.length := by rw [r.lh]; omega
  have hl : (P.getD b []).length = w := by
    rw [List.getD_eq_getElem?_getD, List.getElem?_eq_getElem hb]
    exact r.lw _ (List.getElem_mem hb)
  simp only [Int.toNat_natCast]
  exact ⟨ixN_nat hb, ixN_nat (by omega)⟩
theorem setC_rc {α : Type} {P : List (List α)} {w h : Nat} (r : Rc P w h) {c : Cl} (i : Ins w h c) (v : α) : Rc (setC P c v) w h := by
  refine ⟨by unfold setC; rw [List.length_set]; exact r.lh, fun q m => ?_⟩
  unfold setC at m
  rcases List.mem_or_eq_of_mem_set m with m | rfl
  · exact r.lw q m
  · rw [List.length_set]
    obtain ⟨e, l⟩ := r.row i.2.2.1 i.2.2.2
    exact l
theorem setC_gt {α : Type} (d : α) {P : List (List α)} {w h : Nat} (r : Rc P w h) {c o : Cl} (i : Ins w h c) (j : Ins w h o) (v : α) : gt d (setC P c v) o = if o = c then v else gt d P o := by
  obtain ⟨h0, h1, h2, h3⟩ := i
  obtain ⟨k0, k1, k2, k3⟩ := j
  obtain ⟨x, y⟩ := c
  obtain ⟨u, z⟩ := o
  dsimp only at h0 h1 h2 h3 k0 k1 k2 k3 ⊢
  obtain ⟨a, rfl⟩ := Int.eq_ofNat_of_zero_le h0
  obtain ⟨b, rfl⟩ := Int.eq_ofNat_of_zero_le h2
  obtain ⟨a', rfl⟩ := Int.eq_ofNat_of_zero_le k0
  obtain ⟨b', rfl⟩ := Int.eq_ofNat_of_zero_le k2
  have hb : b < P.length := by rw [r.lh]; omega
  have hl : (P.getD b []).length = w := by
    rw [List.getD_eq_getElem?_getD, List.getElem?_eq_getElem hb]
    exact r.lw _ (List.getElem_mem hb)
  unfold gt setC
  simp only [Int.toNat_natCast, Prod.mk.injEq, Int.natCast_inj]
  by_cases q : b' = b
  · subst q
    rw [show (P.set b' ((P.getD b' []).set a v)).getD b' [] = (P.getD b' []).set a v by rw [List.getD_eq_getElem?_getD, List.getElem?_set_self hb]; rfl]
    by_cases p : a' = a
    · subst p
      rw [if_pos ⟨rfl, rfl⟩, List.getD_eq_getElem?_getD, List.getElem?_set_self (by omega)]; rfl
    · rw [if_neg (fun t => p t.1), List.getD_eq_getElem?_getD, List.getElem?_set_ne (fun t => p t.symm), ← List.getD_eq_getElem?_getD]
  · rw [if_neg (fun t => q t.2), show (P.set b ((P.getD b []).set a v)).getD b' [] = P.getD b' [] by rw [List.getD_eq_getElem?_getD, List.getElem?_set_ne (fun t => q t.symm), List.getD_eq_getElem?_getD]]
section
variable {B P : List (List Cl)} {w h : Nat} {s : Int}
def NoX (B : List (List Cl)) (s : Int) (w h : Nat) : Prop := ∀ a b, Ins w h a → Ins w h b → lw B a - s * dst a b ≤ hg B b
theorem NoX.lohi (n : NoX B s w h) (w1 : 1 ≤ w) (h1 : 1 ≤ h) (s0 : 0 ≤ s) (c : Cl) : (loV B s w h c).1 ≤ (hiV B s w h c).1 := by
  obtain ⟨_, lm, le, la, _⟩ := loV_spec (B := B) (s := s) w1 h1 c
  obtain ⟨_, hm, he, ha, _⟩ := hiV_spec (B := B) (s := s) w1 h1 c
  have x := n _ _ (mem_cells.1 lm) (mem_cells.1 hm)
  have t := Int.mul_le_mul_of_nonneg_left (dst_tri (loV B s w h c).2 c (hiV B s w h c).2) s0
  rw [Int.mul_add] at t
  unfold lof at le; unfold hif at he
  omega
theorem lo_in (w1 : 1 ≤ w) (h1 : 1 ≤ h) {c : Cl} (i : Ins w h c) : lw B c ≤ (loV B s w h c).1 ∧ (hiV B s w h c).1 ≤ hg B c := by
  obtain ⟨_, lm, le, la, _⟩ := loV_spec (B := B) (s := s) w1 h1 c
  obtain ⟨_, hm, he, ha, _⟩ := hiV_spec (B := B) (s := s) w1 h1 c
  have a := la c (mem_cells.2 i); have b := ha c (mem_cells.2 i)
  unfold lof at a; unfold hif at b
  rw [dst_self, Int.mul_zero] at a b
  omega
theorem lo_mono (w1 : 1 ≤ w) (h1 : 1 ≤ h) (m : ∀ o, Ins w h o → lw B o ≤ lw P o ∧ hg P o ≤ hg B o) (c : Cl) : (loV B s w h c).1 ≤ (loV P s w h c).1 ∧ (hiV P s w h c).1 ≤ (hiV B s w h c).1 := by
  obtain ⟨_, lm, le, la, _⟩ := loV_spec (B := B) (s := s) w1 h1 c
  obtain ⟨_, hm, he, ha, _⟩ := hiV_spec (B := B) (s := s) w1 h1 c
  obtain ⟨_, lm2, le2, la2, _⟩ := loV_spec (B := P) (s := s) w1 h1 c
  obtain ⟨_, hm2, he2, ha2, _⟩ := hiV_spec (B := P) (s := s) w1 h1 c
  have a := la2 _ lm; have b := ha2 _ hm
  have p := (m _ (mem_cells.1 lm)).1
  have q := (m _ (mem_cells.1 hm)).2
  unfold lof at a le; unfold hif at b he
  omega
/-- a cell is settled: nothing crosses -/
theorem NoX.set (n : NoX P s w h) (r : Rc P w h) (w1 : 1 ≤ w) (h1 : 1 ≤ h) {c : Cl} (i : Ins w h c) {v : Int} (a : (loV P s w h c).1 ≤ v) (b : v ≤ (hiV P s w h c).1) : NoX (setC P c (v, v)) s w h := by
  intro p q ip iq
  obtain ⟨_, lm, le, la, _⟩ := loV_spec (B := P) (s := s) w1 h1 c
  obtain ⟨_, hm, he, ha, _⟩ := hiV_spec (B := P) (s := s) w1 h1 c
  unfold lw hg
  rw [setC_gt _ r i ip, setC_gt _ r i iq]
  have x := la p (mem_cells.2 ip)
  have y := ha q (mem_cells.2 iq)
  have z := n p q ip iq
  unfold lof lw at x; unfold hif hg at y; unfold lw hg at z
  by_cases ep : p = c
  · by_cases eq : q = c
    · rw [if_pos ep, if_pos eq, ep, eq, dst_self]; simp
    · rw [if_pos ep, if_neg eq, ep]; dsimp only; omega
  · by_cases eq : q = c
    · rw [if_neg ep, if_pos eq, eq, dst_comm]; dsimp only; omega
    · rw [if_neg ep, if_neg eq]; exact z
theorem first_at {α : Type} {L : List α} {P : α → Bool} {x : α} (h : L.find? P = some x) : atI (L.filterMap fun c => if P c = true then some c else none) (0 : Int) = some x := by
  have : (L.filterMap fun c => if P c = true then some c else none).head? = some x := by
    induction L with
    | nil => cases h
    | cons a L ih =>
      rw [List.find?_cons] at h
      rw [List.filterMap_cons]
      cases e : P a with
      | true => rw [e] at h; cases h; simp
      | false => rw [e] at h; simp only [Bool.false_eq_true, if_false]; exact ih h
  cases e : (L.filterMap fun c => if P c = true then some c else none) with
  | nil => rw [e] at this; cases this
  | cons a R => rw [e] at this; cases this; exact Z.atI_nat (i := 0) (by simp)
theorem eqv_pair {x y : Int} (a b : PyData) (ha : a = (eT2 eI eI).enc (x, y)) (hb : b = .tuple [.int x, .int y]) : (SeqAt.shaped a && SeqAt.shaped b) = true ∧ PyData.eqv a b = true := by
  subst ha; subst hb
  have : SeqAt.shaped (.tuple [.int x, .int y]) = true := by
    simp [SeqAt.shaped, PyData.canLay0, PyData.canLayAll0, PyData.depth, PyData.depthAll]
  exact ⟨by show (SeqAt.shaped (.tuple [.int x, .int y]) && SeqAt.shaped (.tuple [.int x, .int y])) = true; rw [this]; rfl, shaped_eqv this⟩
theorem shaped_cc {p : Cl × Cl} : SeqAt.shaped ((eT2 (eT2 eI eI) (eT2 eI eI)).enc p) = true := by
  simp [SeqAt.shaped, eT2, eI, PyData.canLay0, PyData.canLayAll0, PyData.depth, PyData.depthAll]
end
theorem law_true (ns : List Int) (hn : ns.length ≤ 63) : m_law ns = some true := by
  have hS : (1000000 : Nat) ≤ SZ := by decide
  obtain ⟨t, et, ht⟩ := state_ok hn
  unfold m_law
  rw [state_eq, take_eq]
  refine bind_wp et ?_
  dsimp only
  obtain ⟨o, eo, ht, ⟨s0, s3⟩, w, v, tb⟩ := table_ok ht
  refine bind_wp eo ?_
  obtain ⟨⟨B, s⟩, t⟩ := o
  dsimp only at ht s0 s3 tb ⊢
  have rB := tb.rc
  have w1 := tb.w1
  have w5 := tb.w5
  have h1 := tb.h1
  have h5 := tb.h5
  have hc25 : (cellsL w v).length ≤ 25 := by
    rw [cells_len]; exact Nat.le_trans (Nat.mul_le_mul w5 h5) (by decide)
  have bB : ∀ {c}, Ins w v c → 0 ≤ lw B c ∧ lw B c ≤ hg B c ∧ hg B c ≤ 30 := fun {c} i => rc_mem rB (0, 0) (Q := fun p : Cl => 0 ≤ p.1 ∧ p.1 ≤ p.2 ∧ p.2 ≤ 30) tb.bd i
  have sB : Sml (Pb 100) B := ⟨by have := rB.lh; omega, fun r m => ⟨by have := rB.lw r m; omega, fun p mp => by have := tb.bd r m p mp; unfold Pb; omega⟩⟩
  have esr := (sml_sh sB fun p => pb_sh).repr
  refine bind_wp esr ?_
  refine bind_wp (lcrossing_ok rB h1 w5 h5 s0 s3) ?_
  refine bind_wp (tighten_ok rB w1 h1 w5 h5 s0 s3) ?_
  have bCs : ∀ {c}, c ∈ cellsL w v → Pb 100 c := fun {c} m => by
    have := mem_cells.1 m
    unfold Ins at this
    unfold Pb; omega
  -- what is told is right
  have toldR : ∃ T0, (crs B s w v).elim (tgtD (tbT B s w v) (tbH B s w v)) crsD = T0 ∧ Told w v T0 ∧ m_tighten_fault B s T0 = some .none ∧ m__law_fault B s T0 = some .none ∧ isTupD T0 = true ∧
      ((partD T0 (0 : Int)).bind fun y => (deS y).bind fun z => some (decide (z = ("cross" : Str)))) = some ((crs B s w v).isSome) := by
    refine ⟨_, rfl, ?_⟩
    cases e : crs B s w v with
    | some p =>
      obtain ⟨a, b, c⟩ := crs_some e
      have td : Told w v (crsD p) := .crs ⟨bCs a, bCs b⟩
      refine ⟨td, ?_, ?_, rfl, ?_⟩
      · rw [← rightX_ok e]; exact pcross_ok rB h1 w5 h5 s0 s3 p
      · rw [← rightX_ok e]; exact lcross_ok rB h1 w5 h5 s0 s3 p
      · show some (decide (("cross" : Str) = ("cross" : Str))) = _
        rw [decide_eq_true rfl]; rfl
    | none =>
      have rT : Rc (tbT B s w v) w v := tab_rc ..
      have rH : Rc (tbH B s w v) w v := tab_rc ..
      have nx : NoX B s w v := fun a b ia ib => crs_none e ia ib
      have sT : Sml (Pb 50) (tbT B s w v) := ⟨by rw [rT.lh]; exact h5, fun r m => ⟨by rw [rT.lw r m]; exact w5, fun p mp => by
        obtain ⟨y, my, rfl⟩ := List.mem_map.1 m
        obtain ⟨x, mx, rfl⟩ := List.mem_map.1 mp
        have a := mem_rng.1 mx
        have b := mem_rng.1 my
        have i : Ins w v (x, y) := ⟨a.1, a.2, b.1, b.2⟩
        have c1 := bB i
        have c2 := lo_in (B := B) (s := s) w1 h1 i
        have c3 := nx.lohi w1 h1 s0 (x, y)
        unfold Pb; dsimp only; omega⟩⟩
      have sH : Sml Hb (tbH B s w v) := ⟨by rw [rH.lh]; exact h5, fun r m => ⟨by rw [rH.lw r m]; exact w5, fun p mp => by
        obtain ⟨y, my, rfl⟩ := List.mem_map.1 m
        obtain ⟨x, mx, rfl⟩ := List.mem_map.1 mp
        exact ⟨bCs (loV_spec w1 h1 _).2.1, bCs (hiV_spec w1 h1 _).2.1⟩⟩⟩
      refine ⟨.tgt rT rH sT sH, ?_, ?_, rfl, ?_⟩
      · rw [← right_ok rB w1 h1 s0 e]; exact ptight_ok rB h1 w5 h5 s0 s3 _ _ (by have := sT.1; omega) (by have := sH.1; omega)
      · rw [← right_ok rB w1 h1 s0 e]; exact ltight_ok rB h1 w5 h5 s0 s3 _ _ (by have := sT.1; omega) (by have := sH.1; omega)
      · show some (decide (("tight" : Str) = ("cross" : Str))) = _
        rw [decide_eq_false (by decide +kernel)]; rfl
  obtain ⟨T0, eT0, td, pf, lf, it0, cr⟩ := toldR
  rw [eT0]
  refine bind_wp (a := false) ?_ ?_
  · refine ck_wp it0 ?_
    show (if (false : Bool) = true then _ else _) = _
    rw [ite_f]
    refine bind_wp esr ?_
    rw [decide_eq_true rfl, ite_nt]
    exact bind_wp lf rfl
  rw [ite_f]
  have crb : (!isNone ((eO (eT2 (eT2 eI eI) (eT2 eI eI)) (fun _ h => by cases h)).enc (crs B s w v))) = (crs B s w v).isSome := by cases crs B s w v <;> rfl
  refine bind_wp (a := false) ?_ ?_
  · refine bind_wp pf ?_
    show (if (false : Bool) = true then _ else _) = _
    rw [ite_f, crb]
    cases e1 : partD T0 (0 : Int) with
    | none => rw [e1] at cr; cases cr
    | some y =>
      rw [e1, Option.bind_some] at cr
      rw [Option.bind_some]
      cases e2 : deS y with
      | none => rw [e2] at cr; cases cr
      | some z =>
        rw [e2, Option.bind_some] at cr
        rw [Option.bind_some, Option.some.inj cr, decide_eq_true rfl]; rfl
  rw [ite_f]
  refine bind_wp (a := false) ?_ ?_
  · rw [crb]
    cases e : crs B s w v with
    | none => rfl
    | some p =>
      rw [e] at eT0
      have eT0 : crsD p = T0 := eT0
      rw [show (some p : Option (Cl × Cl)).isSome = true from rfl, ite_t, Option.bind_some]
      have sh : SeqAt.shaped (crsD p) = true := by
        obtain ⟨a, b, _⟩ := crs_some e
        exact (shT (shpC (swd (s := "cross") (by decide +kernel) (by decide +kernel) (by decide +kernel)) (shpC (pb_sh (bCs a)) (shpC (pb_sh (bCs b)) shp0)))).shaped
      rw [← eT0]
      refine ck_wp (by show (SeqAt.shaped (crsD p) && SeqAt.shaped (crsD p)) = true; rw [sh]; rfl) ?_
      show some (!PyData.eqv (crsD p) (crsD p)) = _
      rw [shaped_eqv sh]; rfl
  rw [ite_f]
  refine ck_wp (rgOk_s (by decide) (by decide) (by decide) (by decide)) (forO_wp (fun t : TSt => t.2 ≠ []) ht (fun t x mx ht kc hk => ?_) fun t ht => ?_)
  · obtain ⟨r, er, ht', gd⟩ := bent_ok ht rB w1 h1 w5 h5 td
    refine bind_wp er ?_
    have gr := gd.repr
    obtain ⟨f, f1, f2, fs⟩ := gd.faults rB h1 w5 h5 s0 s3
    refine bind_wp gr (bind_wp (a := false) ?_ ?_)
    · refine bind_wp f1 (bind_wp f2 (ck_wp (by show (SeqAt.shaped f && SeqAt.shaped f) = true; rw [fs]; rfl) ?_))
      show (if (!PyData.eqv f f) = true then _ else _) = _
      rw [shaped_eqv fs, ite_nt]
      refine bind_wp gr ?_
      rw [decide_eq_true rfl]; rfl
    · rw [ite_f]
      exact hk _ ht'
  rw [crb]
  cases e : crs B s w v with
  | some p => rfl
  | none =>
    rw [show (none : Option (Cl × Cl)).isSome = false from rfl, ite_f]
    rw [e] at eT0
    have eT0 : tgtD (tbT B s w v) (tbH B s w v) = T0 := eT0
    subst eT0
    have rT : Rc (tbT B s w v) w v := tab_rc ..
    have rH : Rc (tbH B s w v) w v := tab_rc ..
    have nx : NoX B s w v := fun a b ia ib => crs_none e ia ib
    have gT : ∀ {c}, Ins w v c → gt (0, 0) (tbT B s w v) c = ((loV B s w v c).1, (hiV B s w v c).1) := fun i => tab_gt _ i
    have gH : ∀ {c}, Ins w v c → gt ((0, 0), (0, 0)) (tbH B s w v) c = ((loV B s w v c).2, (hiV B s w v c).2) := fun i => tab_gt _ i
    have p1 : partD (tgtD (tbT B s w v) (tbH B s w v)) (1 : Int) = some ((eL (eL (eT2 eI eI))).enc (tbT B s w v)) := rfl
    have p2 : partD (tgtD (tbT B s w v) (tbH B s w v)) (2 : Int) = some ((eL (eL (eT2 (eT2 eI eI) (eT2 eI eI)))).enc (tbH B s w v)) := rfl
    refine bind_wp (lcells_ok rB h1 w5 h5) ?_
    refine forO_wp (fun _ : Unit => True) trivial (fun t0 c mc _ kc hk => ?_) fun _ _ => ?_
    · have i := mem_cells.1 mc
      refine bind_wp (least_ok rB w1 h1 w5 h5 s0 s3 c) (bind_wp (most_ok rB w1 h1 w5 h5 s0 s3 c) ?_)
      obtain ⟨_, lm, le, la, lf0⟩ := loV_spec (B := B) (s := s) w1 h1 c
      obtain ⟨_, hm, he, ha, hf0⟩ := hiV_spec (B := B) (s := s) w1 h1 c
      refine bind_wp (lcells_ok rB h1 w5 h5) ?_
      refine (compO_filterMap (fun x => if decide (lof B s c x = (loV B s w v c).1) = true then some x else none) () _ [] (by simp; omega) fun x mx kc => ?_).trans ?_
      · refine (rB.at (0, 0) (mem_cells.1 mx) _).trans ?_
        rw [show m__law_steps (c.1, c.2) x = some (dst c x) from rfl, Option.bind_some, ck_pos (mulOk_l s0 (by omega))]
        show (if decide (lof B s c x = (loV B s w v c).1) = true then _ else _) = _
        split <;> rfl
      rw [List.nil_append]
      refine bind_wp (first_at lf0) (bind_wp (lcells_ok rB h1 w5 h5) ?_)
      refine (compO_filterMap (fun x => if decide (hif B s c x = (hiV B s w v c).1) = true then some x else none) () _ [] (by simp; omega) fun x mx kc => ?_).trans ?_
      · refine (rB.at (0, 0) (mem_cells.1 mx) _).trans ?_
        rw [show m__law_steps (c.1, c.2) x = some (dst c x) from rfl, Option.bind_some, ck_pos (mulOk_l s0 (by omega))]
        show (if decide (hif B s c x = (hiV B s w v c).1) = true then _ else _) = _
        split <;> rfl
      rw [List.nil_append]
      refine bind_wp (first_at hf0) (bind_wp (a := false) ?_ ?_)
      · rw [p1, Option.bind_some]
        refine (partD_at (eT2 eI eI) (0, 0) rT i _).trans ?_
        rw [gT i]
        obtain ⟨q1, q2⟩ := eqv_pair (x := (loV B s w v c).1) (y := (hiV B s w v c).1) _ _ rfl rfl
        refine ck_wp q1 ?_
        rw [show (!PyData.eqv (eD.enc ((eT2 eI eI).enc ((loV B s w v c).1, (hiV B s w v c).1))) (eD.enc (.tuple [.int (loV B s w v c).1, .int (hiV B s w v c).1]))) = false from by rw [show PyData.eqv (eD.enc ((eT2 eI eI).enc ((loV B s w v c).1, (hiV B s w v c).1))) (eD.enc (.tuple [.int (loV B s w v c).1, .int (hiV B s w v c).1])) = true from q2]; rfl, ite_f]
        rw [p2, Option.bind_some]
        refine (partD_at (eT2 (eT2 eI eI) (eT2 eI eI)) ((0, 0), (0, 0)) rH i _).trans ?_
        rw [gH i]
        have sc := shaped_cc (p := ((loV B s w v c).2, (hiV B s w v c).2))
        refine ck_wp (by show (SeqAt.shaped ((eT2 (eT2 eI eI) (eT2 eI eI)).enc ((loV B s w v c).2, (hiV B s w v c).2)) && SeqAt.shaped ((eT2 (eT2 eI eI) (eT2 eI eI)).enc ((loV B s w v c).2, (hiV B s w v c).2))) = true; rw [sc]; rfl) ?_
        show some (!PyData.eqv ((eT2 (eT2 eI eI) (eT2 eI eI)).enc ((loV B s w v c).2, (hiV B s w v c).2)) ((eT2 (eT2 eI eI) (eT2 eI eI)).enc ((loV B s w v c).2, (hiV B s w v c).2))) = _
        rw [shaped_eqv sc]; rfl
      · rw [ite_f]; exact hk _ trivial
    · refine ck_wp (rgOk_s (by decide) (by decide) (by decide) (by decide)) (forO_wp (fun t : TSt => t.2 ≠ []) ht (fun t x mx ht kc hk => ?_) fun t ht => ?_)
      rotate_left
      · refine bind_wp esr ?_
        rw [decide_eq_true rfl]
      have xr := mem_rng.1 mx
      refine (copyL (by have := sB.1; omega) _).trans ?_
      refine bind_wp (lcells_ok rB h1 w5 h5) ?_
      refine forO_wp (fun S : TSt × List (List Cl) => S.1.2 ≠ [] ∧ Rc S.2 w v ∧ NoX S.2 s w v ∧ ∀ o, Ins w v o → lw B o ≤ lw S.2 o ∧ hg S.2 o ≤ hg B o) ⟨ht, rB, nx, fun o _ => ⟨Int.le_refl _, Int.le_refl _⟩⟩ (fun S c mc hS2 kc2 hk2 => ?_) fun S hS2 => hk _ hS2.1
      obtain ⟨t2, P⟩ := S
      obtain ⟨ht2, rP, nP, mP⟩ := hS2
      dsimp only at ht2 rP nP mP ⊢
      have i := mem_cells.1 mc
      refine bind_wp (least_ok rP w1 h1 w5 h5 s0 s3 c) (bind_wp (most_ok rP w1 h1 w5 h5 s0 s3 c) ?_)
      have lh := nP.lohi w1 h1 s0 c
      have li := lo_in (B := P) (s := s) w1 h1 i
      have lb := bB i
      have mi := mP c i
      have mo := lo_mono (s := s) w1 h1 mP c
      rw [decide_eq_false (by omega), ite_f]
      refine take_wp ht2 (by omega) (by omega) fun a t3 a0 a1 ht3 => ?_
      dsimp only
      obtain ⟨z, ez, z0, z1⟩ : ∃ z, atI ([(loV P s w v c).1, (hiV P s w v c).1, ((loV P s w v c).1 + a)]) x = some z ∧ (loV P s w v c).1 ≤ z ∧ z ≤ (hiV P s w v c).1 := by
        have : x = 0 ∨ x = 1 ∨ x = 2 := by omega
        rcases this with rfl | rfl | rfl
        · exact ⟨_, rfl, by omega, by omega⟩
        · exact ⟨_, rfl, by omega, by omega⟩
        · exact ⟨_, rfl, by omega, by omega⟩
      refine bind_wp ez ?_
      obtain ⟨i1, i2⟩ := setC_run rP i
      refine bind_wp i1 (bind_wp i2 ?_)
      refine bind_wp (a := true) ?_ ?_
      · rw [p1, Option.bind_some]
        refine (partD_at (eT2 eI eI) (0, 0) rT i _).trans ?_
        rw [gT i]
        show (if decide ((loV B s w v c).1 ≤ z) = true then _ else _) = _
        rw [decide_eq_true (show (loV B s w v c).1 ≤ z by omega), ite_t]
        rw [Option.bind_some]
        refine (partD_at (eT2 eI eI) (0, 0) rT i _).trans ?_
        rw [gT i]
        show some (decide (z ≤ (hiV B s w v c).1)) = _
        rw [decide_eq_true (show z ≤ (hiV B s w v c).1 by omega)]
      · rw [ite_nt]
        refine hk2 _ ⟨ht3, setC_rc rP i _, nP.set rP w1 h1 i z0 z1, fun o io => ?_⟩
        show lw B o ≤ lw (setC P c (z, z)) o ∧ hg (setC P c (z, z)) o ≤ hg B o
        unfold lw hg
        rw [setC_gt _ rP i io]
        by_cases eo : o = c
        · rw [if_pos eo, eo]
          unfold lw at mi li; unfold hg at mi li
          dsimp only
          omega
        · rw [if_neg eo]
          exact mP o io

/-- what the law's call promises -/
def spLaw (K : Fg) : Sp := fun vs H Q _ => ∃ (a : Addr) (ns : List Int), vs = [.ref a] ∧ SqL K H a (ns.map V.int) ∧ ns.length ≤ 63 ∧ ∀ H', Q (.bl true) H'
theorem ok_end {P : Program} {w : World} {K : Fg} {mg : Str → Option Value} {base : Heap} (fa : Fa K mg) : FnG P w K mg base 4 fa.f_law fa.fd_law ["script"] (spLaw K) :=
  (ok_law fa).weak fun vs H Q E h => by
    obtain ⟨a, ns, rfl, hS, hlen, q⟩ := h
    exact law_sp hS (law_true ns hlen) q
theorem all_mk {l : PySem.W.OpenLaw} {w : World} {K : Fg} {h : Heap} {mg : Str → Option Value} {fz f0 f1 f2 f3 f4 f5 f6 f7 f8 f9 f10 f11 f12 f13 f14 f15 f16 f17 f18 f19 : Addr} (X : K.In h) (G : h.Ns mainGlobals mg) (hfa : mg "law" = some (.ref fz))
    {od0 an0 : Option Addr} {sl0 : Array (Option Value)} {oc0 kV0 dc0 pm0 cd0 ct0 : Value}
    (a0 : PySem.W.nsIn K mainGlobals "cells_in" = some (some (.ref f0))) (l0 : K.lookup f0 = some ⟨oc0, od0, .func (PySem.W.fnOf "cells_in" "cells_in" (defArgs s_cells_in) (defBody s_cells_in) (defScope s_cells_in) .none kV0 dc0 pm0 an0 cd0 ct0), sl0⟩) (c0 : PySem.W.codeIn K cd0 "cells_in" = true) (k0 : PySem.W.keepIn K (.ref f0) = true)
    {od1 an1 : Option Addr} {sl1 : Array (Option Value)} {oc1 kV1 dc1 pm1 cd1 ct1 : Value}
    (a1 : PySem.W.nsIn K mainGlobals "at" = some (some (.ref f1))) (l1 : K.lookup f1 = some ⟨oc1, od1, .func (PySem.W.fnOf "at" "at" (defArgs s_at) (defBody s_at) (defScope s_at) .none kV1 dc1 pm1 an1 cd1 ct1), sl1⟩) (c1 : PySem.W.codeIn K cd1 "at" = true) (k1 : PySem.W.keepIn K (.ref f1) = true)
    {od2 an2 : Option Addr} {sl2 : Array (Option Value)} {oc2 kV2 dc2 pm2 cd2 ct2 : Value}
    (a2 : PySem.W.nsIn K mainGlobals "steps" = some (some (.ref f2))) (l2 : K.lookup f2 = some ⟨oc2, od2, .func (PySem.W.fnOf "steps" "steps" (defArgs s_steps) (defBody s_steps) (defScope s_steps) .none kV2 dc2 pm2 an2 cd2 ct2), sl2⟩) (c2 : PySem.W.codeIn K cd2 "steps" = true) (k2 : PySem.W.keepIn K (.ref f2) = true)
    {od3 an3 : Option Addr} {sl3 : Array (Option Value)} {oc3 kV3 dc3 pm3 cd3 ct3 : Value}
    (a3 : PySem.W.nsIn K mainGlobals "crossing" = some (some (.ref f3))) (l3 : K.lookup f3 = some ⟨oc3, od3, .func (PySem.W.fnOf "crossing" "crossing" (defArgs s_crossing) (defBody s_crossing) (defScope s_crossing) .none kV3 dc3 pm3 an3 cd3 ct3), sl3⟩) (c3 : PySem.W.codeIn K cd3 "crossing" = true) (k3 : PySem.W.keepIn K (.ref f3) = true)
    {od4 an4 : Option Addr} {sl4 : Array (Option Value)} {oc4 kV4 dc4 pm4 cd4 ct4 : Value}
    (a4 : PySem.W.nsIn K mainGlobals "tightest" = some (some (.ref f4))) (l4 : K.lookup f4 = some ⟨oc4, od4, .func (PySem.W.fnOf "tightest" "tightest" (defArgs s_tightest) (defBody s_tightest) (defScope s_tightest) .none kV4 dc4 pm4 an4 cd4 ct4), sl4⟩) (c4 : PySem.W.codeIn K cd4 "tightest" = true) (k4 : PySem.W.keepIn K (.ref f4) = true)
    {od5 an5 : Option Addr} {sl5 : Array (Option Value)} {oc5 kV5 dc5 pm5 cd5 ct5 : Value}
    (a5 : PySem.W.nsIn K mainGlobals "tighten" = some (some (.ref f5))) (l5 : K.lookup f5 = some ⟨oc5, od5, .func (PySem.W.fnOf "tighten" "tighten" (defArgs s_tighten) (defBody s_tighten) (defScope s_tighten) .none kV5 dc5 pm5 an5 cd5 ct5), sl5⟩) (c5 : PySem.W.codeIn K cd5 "tighten" = true) (k5 : PySem.W.keepIn K (.ref f5) = true)
    {od6 an6 : Option Addr} {sl6 : Array (Option Value)} {oc6 kV6 dc6 pm6 cd6 ct6 : Value}
    (a6 : PySem.W.nsIn K mainGlobals "tighten_fault" = some (some (.ref f6))) (l6 : K.lookup f6 = some ⟨oc6, od6, .func (PySem.W.fnOf "tighten_fault" "tighten_fault" (defArgs s_tighten_fault) (defBody s_tighten_fault) (defScope s_tighten_fault) .none kV6 dc6 pm6 an6 cd6 ct6), sl6⟩) (c6 : PySem.W.codeIn K cd6 "tighten_fault" = true) (k6 : PySem.W.keepIn K (.ref f6) = true)
    {od7 an7 : Option Addr} {sl7 : Array (Option Value)} {oc7 kV7 dc7 pm7 cd7 ct7 : Value}
    (a7 : PySem.W.nsIn K mainGlobals "cell_fault" = some (some (.ref f7))) (l7 : K.lookup f7 = some ⟨oc7, od7, .func (PySem.W.fnOf "cell_fault" "cell_fault" (defArgs s_cell_fault) (defBody s_cell_fault) (defScope s_cell_fault) .none kV7 dc7 pm7 an7 cd7 ct7), sl7⟩) (c7 : PySem.W.codeIn K cd7 "cell_fault" = true) (k7 : PySem.W.keepIn K (.ref f7) = true)
    {od8 an8 : Option Addr} {sl8 : Array (Option Value)} {oc8 kV8 dc8 pm8 cd8 ct8 : Value}
    (a8 : PySem.W.nsIn K mainGlobals "_law_state" = some (some (.ref f8))) (l8 : K.lookup f8 = some ⟨oc8, od8, .func (PySem.W.fnOf "_law_state" "_law_state" (defArgs s__law_state) (defBody s__law_state) (defScope s__law_state) .none kV8 dc8 pm8 an8 cd8 ct8), sl8⟩) (c8 : PySem.W.codeIn K cd8 "_law_state" = true) (k8 : PySem.W.keepIn K (.ref f8) = true)
    {od9 an9 : Option Addr} {sl9 : Array (Option Value)} {oc9 kV9 dc9 pm9 cd9 ct9 : Value}
    (a9 : PySem.W.nsIn K mainGlobals "_law_take" = some (some (.ref f9))) (l9 : K.lookup f9 = some ⟨oc9, od9, .func (PySem.W.fnOf "_law_take" "_law_take" (defArgs s__law_take) (defBody s__law_take) (defScope s__law_take) .none kV9 dc9 pm9 an9 cd9 ct9), sl9⟩) (c9 : PySem.W.codeIn K cd9 "_law_take" = true) (k9 : PySem.W.keepIn K (.ref f9) = true)
    {od10 an10 : Option Addr} {sl10 : Array (Option Value)} {oc10 kV10 dc10 pm10 cd10 ct10 : Value}
    (a10 : PySem.W.nsIn K mainGlobals "_law_table" = some (some (.ref f10))) (l10 : K.lookup f10 = some ⟨oc10, od10, .func (PySem.W.fnOf "_law_table" "_law_table" (defArgs s__law_table) (defBody s__law_table) (defScope s__law_table) .none kV10 dc10 pm10 an10 cd10 ct10), sl10⟩) (c10 : PySem.W.codeIn K cd10 "_law_table" = true) (k10 : PySem.W.keepIn K (.ref f10) = true)
    {od11 an11 : Option Addr} {sl11 : Array (Option Value)} {oc11 kV11 dc11 pm11 cd11 ct11 : Value}
    (a11 : PySem.W.nsIn K mainGlobals "_law_cells" = some (some (.ref f11))) (l11 : K.lookup f11 = some ⟨oc11, od11, .func (PySem.W.fnOf "_law_cells" "_law_cells" (defArgs s__law_cells) (defBody s__law_cells) (defScope s__law_cells) .none kV11 dc11 pm11 an11 cd11 ct11), sl11⟩) (c11 : PySem.W.codeIn K cd11 "_law_cells" = true) (k11 : PySem.W.keepIn K (.ref f11) = true)
    {od12 an12 : Option Addr} {sl12 : Array (Option Value)} {oc12 kV12 dc12 pm12 cd12 ct12 : Value}
    (a12 : PySem.W.nsIn K mainGlobals "_law_steps" = some (some (.ref f12))) (l12 : K.lookup f12 = some ⟨oc12, od12, .func (PySem.W.fnOf "_law_steps" "_law_steps" (defArgs s__law_steps) (defBody s__law_steps) (defScope s__law_steps) .none kV12 dc12 pm12 an12 cd12 ct12), sl12⟩) (c12 : PySem.W.codeIn K cd12 "_law_steps" = true) (k12 : PySem.W.keepIn K (.ref f12) = true)
    {od13 an13 : Option Addr} {sl13 : Array (Option Value)} {oc13 kV13 dc13 pm13 cd13 ct13 : Value}
    (a13 : PySem.W.nsIn K mainGlobals "_law_least" = some (some (.ref f13))) (l13 : K.lookup f13 = some ⟨oc13, od13, .func (PySem.W.fnOf "_law_least" "_law_least" (defArgs s__law_least) (defBody s__law_least) (defScope s__law_least) .none kV13 dc13 pm13 an13 cd13 ct13), sl13⟩) (c13 : PySem.W.codeIn K cd13 "_law_least" = true) (k13 : PySem.W.keepIn K (.ref f13) = true)
    {od14 an14 : Option Addr} {sl14 : Array (Option Value)} {oc14 kV14 dc14 pm14 cd14 ct14 : Value}
    (a14 : PySem.W.nsIn K mainGlobals "_law_most" = some (some (.ref f14))) (l14 : K.lookup f14 = some ⟨oc14, od14, .func (PySem.W.fnOf "_law_most" "_law_most" (defArgs s__law_most) (defBody s__law_most) (defScope s__law_most) .none kV14 dc14 pm14 an14 cd14 ct14), sl14⟩) (c14 : PySem.W.codeIn K cd14 "_law_most" = true) (k14 : PySem.W.keepIn K (.ref f14) = true)
    {od15 an15 : Option Addr} {sl15 : Array (Option Value)} {oc15 kV15 dc15 pm15 cd15 ct15 : Value}
    (a15 : PySem.W.nsIn K mainGlobals "_law_fault" = some (some (.ref f15))) (l15 : K.lookup f15 = some ⟨oc15, od15, .func (PySem.W.fnOf "_law_fault" "_law_fault" (defArgs s__law_fault) (defBody s__law_fault) (defScope s__law_fault) .none kV15 dc15 pm15 an15 cd15 ct15), sl15⟩) (c15 : PySem.W.codeIn K cd15 "_law_fault" = true) (k15 : PySem.W.keepIn K (.ref f15) = true)
    {od16 an16 : Option Addr} {sl16 : Array (Option Value)} {oc16 kV16 dc16 pm16 cd16 ct16 : Value}
    (a16 : PySem.W.nsIn K mainGlobals "_law_cell_fault" = some (some (.ref f16))) (l16 : K.lookup f16 = some ⟨oc16, od16, .func (PySem.W.fnOf "_law_cell_fault" "_law_cell_fault" (defArgs s__law_cell_fault) (defBody s__law_cell_fault) (defScope s__law_cell_fault) .none kV16 dc16 pm16 an16 cd16 ct16), sl16⟩) (c16 : PySem.W.codeIn K cd16 "_law_cell_fault" = true) (k16 : PySem.W.keepIn K (.ref f16) = true)
    {od17 an17 : Option Addr} {sl17 : Array (Option Value)} {oc17 kV17 dc17 pm17 cd17 ct17 : Value}
    (a17 : PySem.W.nsIn K mainGlobals "_law_crossing" = some (some (.ref f17))) (l17 : K.lookup f17 = some ⟨oc17, od17, .func (PySem.W.fnOf "_law_crossing" "_law_crossing" (defArgs s__law_crossing) (defBody s__law_crossing) (defScope s__law_crossing) .none kV17 dc17 pm17 an17 cd17 ct17), sl17⟩) (c17 : PySem.W.codeIn K cd17 "_law_crossing" = true) (k17 : PySem.W.keepIn K (.ref f17) = true)
    {od18 an18 : Option Addr} {sl18 : Array (Option Value)} {oc18 kV18 dc18 pm18 cd18 ct18 : Value}
    (a18 : PySem.W.nsIn K mainGlobals "_law_bent" = some (some (.ref f18))) (l18 : K.lookup f18 = some ⟨oc18, od18, .func (PySem.W.fnOf "_law_bent" "_law_bent" (defArgs s__law_bent) (defBody s__law_bent) (defScope s__law_bent) .none kV18 dc18 pm18 an18 cd18 ct18), sl18⟩) (c18 : PySem.W.codeIn K cd18 "_law_bent" = true) (k18 : PySem.W.keepIn K (.ref f18) = true)
    {od19 an19 : Option Addr} {sl19 : Array (Option Value)} {oc19 kV19 dc19 pm19 cd19 ct19 : Value}
    (a19 : PySem.W.nsIn K mainGlobals "law" = some (some (.ref f19))) (l19 : K.lookup f19 = some ⟨oc19, od19, .func (PySem.W.fnOf "law" "law" (defArgs s_law) (defBody s_law) (defScope s_law) .none kV19 dc19 pm19 an19 cd19 ct19), sl19⟩) (c19 : PySem.W.codeIn K cd19 "law" = true) (k19 : PySem.W.keepIn K (.ref f19) = true)
    (z_abs : PySem.W.nsIn K mainGlobals "abs" = some none)
    (z_all : PySem.W.nsIn K mainGlobals "all" = some none)
    (z_int : PySem.W.nsIn K mainGlobals "int" = some none)
    (z_isinstance : PySem.W.nsIn K mainGlobals "isinstance" = some none)
    (z_len : PySem.W.nsIn K mainGlobals "len" = some none)
    (z_list : PySem.W.nsIn K mainGlobals "list" = some none)
    (z_max : PySem.W.nsIn K mainGlobals "max" = some none)
    (z_min : PySem.W.nsIn K mainGlobals "min" = some none)
    (z_range : PySem.W.nsIn K mainGlobals "range" = some none)
    (z_repr : PySem.W.nsIn K mainGlobals "repr" = some none)
    (z_tuple : PySem.W.nsIn K mainGlobals "tuple" = some none) :
    ∃ fd : FuncData, (∀ (s : Shared) (v : Value), BindsTo s fd ⟨[v], []⟩ [("script", v)]) ∧ ∀ base : Heap, K.In base → base.Ns mainGlobals mg → FnG l.prog w K mg base 4 fz fd ["script"] (spLaw K) := by
  have e := hfa.symm.trans (PySem.W.mg_of X G a19)
  cases e
  exact ⟨PySem.W.fnOf "law" "law" (defArgs s_law) (defBody s_law) (defScope s_law) .none kV19 dc19 pm19 an19 cd19 ct19, fun s v => .of_eq rfl, fun base _ _ => ok_end (fa := { f_cells_in := f0, fd_cells_in := PySem.W.fnOf "cells_in" "cells_in" (defArgs s_cells_in) (defBody s_cells_in) (defScope s_cells_in) .none kV0 dc0 pm0 an0 cd0 ct0, F_cells_in := fun_mk (st := s_cells_in) l0 c0 k0, g_cells_in := PySem.W.mg_of X G a0, b_cells_in := (fun_mk (st := s_cells_in) l0 c0 k0).binds fun _ _ _ _ _ _ us hl => match us, hl with | [_], _ => rfl, f_at := f1, fd_at := PySem.W.fnOf "at" "at" (defArgs s_at) (defBody s_at) (defScope s_at) .none kV1 dc1 pm1 an1 cd1 ct1, F_at := fun_mk (st := s_at) l1 c1 k1, g_at := PySem.W.mg_of X G a1, b_at := (fun_mk (st := s_at) l1 c1 k1).binds fun _ _ _ _ _ _ us hl => match us, hl with | [_, _], _ => rfl, f_steps := f2, fd_steps := PySem.W.fnOf "steps" "steps" (defArgs s_steps) (defBody s_steps) (defScope s_steps) .none kV2 dc2 pm2 an2 cd2 ct2, F_steps := fun_mk (st := s_steps) l2 c2 k2, g_steps := PySem.W.mg_of X G a2, b_steps := (fun_mk (st := s_steps) l2 c2 k2).binds fun _ _ _ _ _ _ us hl => match us, hl with | [_, _], _ => rfl, f_crossing := f3, fd_crossing := PySem.W.fnOf "crossing" "crossing" (defArgs s_crossing) (defBody s_crossing) (defScope s_crossing) .none kV3 dc3 pm3 an3 cd3 ct3, F_crossing := fun_mk (st := s_crossing) l3 c3 k3, g_crossing := PySem.W.mg_of X G a3, b_crossing := (fun_mk (st := s_crossing) l3 c3 k3).binds fun _ _ _ _ _ _ us hl => match us, hl with | [_, _], _ => rfl, f_tightest := f4, fd_tightest := PySem.W.fnOf "tightest" "tightest" (defArgs s_tightest) (defBody s_tightest) (defScope s_tightest) .none kV4 dc4 pm4 an4 cd4 ct4, F_tightest := fun_mk (st := s_tightest) l4 c4 k4, g_tightest := PySem.W.mg_of X G a4, b_tightest := (fun_mk (st := s_tightest) l4 c4 k4).binds fun _ _ _ _ _ _ us hl => match us, hl with | [_, _, _], _ => rfl, f_tighten := f5, fd_tighten := PySem.W.fnOf "tighten" "tighten" (defArgs s_tighten) (defBody s_tighten) (defScope s_tighten) .none kV5 dc5 pm5 an5 cd5 ct5, F_tighten := fun_mk (st := s_tighten) l5 c5 k5, g_tighten := PySem.W.mg_of X G a5, b_tighten := (fun_mk (st := s_tighten) l5 c5 k5).binds fun _ _ _ _ _ _ us hl => match us, hl with | [_, _], _ => rfl, f_tighten_fault := f6, fd_tighten_fault := PySem.W.fnOf "tighten_fault" "tighten_fault" (defArgs s_tighten_fault) (defBody s_tighten_fault) (defScope s_tighten_fault) .none kV6 dc6 pm6 an6 cd6 ct6, F_tighten_fault := fun_mk (st := s_tighten_fault) l6 c6 k6, g_tighten_fault := PySem.W.mg_of X G a6, b_tighten_fault := (fun_mk (st := s_tighten_fault) l6 c6 k6).binds fun _ _ _ _ _ _ us hl => match us, hl with | [_, _, _], _ => rfl, f_cell_fault := f7, fd_cell_fault := PySem.W.fnOf "cell_fault" "cell_fault" (defArgs s_cell_fault) (defBody s_cell_fault) (defScope s_cell_fault) .none kV7 dc7 pm7 an7 cd7 ct7, F_cell_fault := fun_mk (st := s_cell_fault) l7 c7 k7, g_cell_fault := PySem.W.mg_of X G a7, b_cell_fault := (fun_mk (st := s_cell_fault) l7 c7 k7).binds fun _ _ _ _ _ _ us hl => match us, hl with | [_, _, _, _, _], _ => rfl, f__law_state := f8, fd__law_state := PySem.W.fnOf "_law_state" "_law_state" (defArgs s__law_state) (defBody s__law_state) (defScope s__law_state) .none kV8 dc8 pm8 an8 cd8 ct8, F__law_state := fun_mk (st := s__law_state) l8 c8 k8, g__law_state := PySem.W.mg_of X G a8, b__law_state := (fun_mk (st := s__law_state) l8 c8 k8).binds fun _ _ _ _ _ _ us hl => match us, hl with | [_], _ => rfl, f__law_take := f9, fd__law_take := PySem.W.fnOf "_law_take" "_law_take" (defArgs s__law_take) (defBody s__law_take) (defScope s__law_take) .none kV9 dc9 pm9 an9 cd9 ct9, F__law_take := fun_mk (st := s__law_take) l9 c9 k9, g__law_take := PySem.W.mg_of X G a9, b__law_take := (fun_mk (st := s__law_take) l9 c9 k9).binds fun _ _ _ _ _ _ us hl => match us, hl with | [_, _], _ => rfl, f__law_table := f10, fd__law_table := PySem.W.fnOf "_law_table" "_law_table" (defArgs s__law_table) (defBody s__law_table) (defScope s__law_table) .none kV10 dc10 pm10 an10 cd10 ct10, F__law_table := fun_mk (st := s__law_table) l10 c10 k10, g__law_table := PySem.W.mg_of X G a10, b__law_table := (fun_mk (st := s__law_table) l10 c10 k10).binds fun _ _ _ _ _ _ us hl => match us, hl with | [_], _ => rfl, f__law_cells := f11, fd__law_cells := PySem.W.fnOf "_law_cells" "_law_cells" (defArgs s__law_cells) (defBody s__law_cells) (defScope s__law_cells) .none kV11 dc11 pm11 an11 cd11 ct11, F__law_cells := fun_mk (st := s__law_cells) l11 c11 k11, g__law_cells := PySem.W.mg_of X G a11, b__law_cells := (fun_mk (st := s__law_cells) l11 c11 k11).binds fun _ _ _ _ _ _ us hl => match us, hl with | [_], _ => rfl, f__law_steps := f12, fd__law_steps := PySem.W.fnOf "_law_steps" "_law_steps" (defArgs s__law_steps) (defBody s__law_steps) (defScope s__law_steps) .none kV12 dc12 pm12 an12 cd12 ct12, F__law_steps := fun_mk (st := s__law_steps) l12 c12 k12, g__law_steps := PySem.W.mg_of X G a12, b__law_steps := (fun_mk (st := s__law_steps) l12 c12 k12).binds fun _ _ _ _ _ _ us hl => match us, hl with | [_, _], _ => rfl, f__law_least := f13, fd__law_least := PySem.W.fnOf "_law_least" "_law_least" (defArgs s__law_least) (defBody s__law_least) (defScope s__law_least) .none kV13 dc13 pm13 an13 cd13 ct13, F__law_least := fun_mk (st := s__law_least) l13 c13 k13, g__law_least := PySem.W.mg_of X G a13, b__law_least := (fun_mk (st := s__law_least) l13 c13 k13).binds fun _ _ _ _ _ _ us hl => match us, hl with | [_, _, _], _ => rfl, f__law_most := f14, fd__law_most := PySem.W.fnOf "_law_most" "_law_most" (defArgs s__law_most) (defBody s__law_most) (defScope s__law_most) .none kV14 dc14 pm14 an14 cd14 ct14, F__law_most := fun_mk (st := s__law_most) l14 c14 k14, g__law_most := PySem.W.mg_of X G a14, b__law_most := (fun_mk (st := s__law_most) l14 c14 k14).binds fun _ _ _ _ _ _ us hl => match us, hl with | [_, _, _], _ => rfl, f__law_fault := f15, fd__law_fault := PySem.W.fnOf "_law_fault" "_law_fault" (defArgs s__law_fault) (defBody s__law_fault) (defScope s__law_fault) .none kV15 dc15 pm15 an15 cd15 ct15, F__law_fault := fun_mk (st := s__law_fault) l15 c15 k15, g__law_fault := PySem.W.mg_of X G a15, b__law_fault := (fun_mk (st := s__law_fault) l15 c15 k15).binds fun _ _ _ _ _ _ us hl => match us, hl with | [_, _, _], _ => rfl, f__law_cell_fault := f16, fd__law_cell_fault := PySem.W.fnOf "_law_cell_fault" "_law_cell_fault" (defArgs s__law_cell_fault) (defBody s__law_cell_fault) (defScope s__law_cell_fault) .none kV16 dc16 pm16 an16 cd16 ct16, F__law_cell_fault := fun_mk (st := s__law_cell_fault) l16 c16 k16, g__law_cell_fault := PySem.W.mg_of X G a16, b__law_cell_fault := (fun_mk (st := s__law_cell_fault) l16 c16 k16).binds fun _ _ _ _ _ _ us hl => match us, hl with | [_, _, _, _, _], _ => rfl, f__law_crossing := f17, fd__law_crossing := PySem.W.fnOf "_law_crossing" "_law_crossing" (defArgs s__law_crossing) (defBody s__law_crossing) (defScope s__law_crossing) .none kV17 dc17 pm17 an17 cd17 ct17, F__law_crossing := fun_mk (st := s__law_crossing) l17 c17 k17, g__law_crossing := PySem.W.mg_of X G a17, b__law_crossing := (fun_mk (st := s__law_crossing) l17 c17 k17).binds fun _ _ _ _ _ _ us hl => match us, hl with | [_, _], _ => rfl, f__law_bent := f18, fd__law_bent := PySem.W.fnOf "_law_bent" "_law_bent" (defArgs s__law_bent) (defBody s__law_bent) (defScope s__law_bent) .none kV18 dc18 pm18 an18 cd18 ct18, F__law_bent := fun_mk (st := s__law_bent) l18 c18 k18, g__law_bent := PySem.W.mg_of X G a18, b__law_bent := (fun_mk (st := s__law_bent) l18 c18 k18).binds fun _ _ _ _ _ _ us hl => match us, hl with | [_, _, _], _ => rfl, f_law := fz, fd_law := PySem.W.fnOf "law" "law" (defArgs s_law) (defBody s_law) (defScope s_law) .none kV19 dc19 pm19 an19 cd19 ct19, F_law := fun_mk (st := s_law) l19 c19 k19, g_law := PySem.W.mg_of X G a19, b_law := (fun_mk (st := s_law) l19 c19 k19).binds fun _ _ _ _ _ _ us hl => match us, hl with | [_], _ => rfl, z_abs := PySem.W.mg_none_of X G z_abs, z_all := PySem.W.mg_none_of X G z_all, z_int := PySem.W.mg_none_of X G z_int, z_isinstance := PySem.W.mg_none_of X G z_isinstance, z_len := PySem.W.mg_none_of X G z_len, z_list := PySem.W.mg_none_of X G z_list, z_max := PySem.W.mg_none_of X G z_max, z_min := PySem.W.mg_none_of X G z_min, z_range := PySem.W.mg_none_of X G z_range, z_repr := PySem.W.mg_none_of X G z_repr, z_tuple := PySem.W.mg_none_of X G z_tuple })⟩
end My
open PySem PySem.W PyProof.Rows
set_option maxHeartbeats 0 in
theorem PySem.Challenge.cw_cutwright_k50_whole_bounds_holds : PySem.Challenge.rw_cutwright_k50_whole_bounds.Holds := by
  w_on; o_law; k_head; (case hw => w_witness2)
  k_fill
  refine Z.walkG (l := PySem.Challenge.rw_cutwright_k50_whole_bounds) (n := 63) (k := 4) (x := "script") (sp := fun w => My.spLaw _) rfl (by decide) rfl ⟨rfl, by decide, by decide⟩ (fun w h Y => PySem.W.kIn_of Y) ?F (fun _ _ a ns hl _ hS => ⟨a, ns, rfl, hS, hl, fun _ => rfl⟩)
  case F =>
    intro w mg fa h KX G hmg
    refine' My.all_mk KX G hmg ?a0 ?l0 ?c0 ?k0 ?a1 ?l1 ?c1 ?k1 ?a2 ?l2 ?c2 ?k2 ?a3 ?l3 ?c3 ?k3 ?a4 ?l4 ?c4 ?k4 ?a5 ?l5 ?c5 ?k5 ?a6 ?l6 ?c6 ?k6 ?a7 ?l7 ?c7 ?k7 ?a8 ?l8 ?c8 ?k8 ?a9 ?l9 ?c9 ?k9 ?a10 ?l10 ?c10 ?k10 ?a11 ?l11 ?c11 ?k11 ?a12 ?l12 ?c12 ?k12 ?a13 ?l13 ?c13 ?k13 ?a14 ?l14 ?c14 ?k14 ?a15 ?l15 ?c15 ?k15 ?a16 ?l16 ?c16 ?k16 ?a17 ?l17 ?c17 ?k17 ?a18 ?l18 ?c18 ?k18 ?a19 ?l19 ?c19 ?k19 ?z_abs ?z_all ?z_int ?z_isinstance ?z_len ?z_list ?z_max ?z_min ?z_range ?z_repr ?z_tuple
    (case a0 => k_is)
    (case l0 => k_is)
    (case c0 => k_is)
    (case k0 => k_is)
    (case a1 => k_is)
    (case l1 => k_is)
    (case c1 => k_is)
    (case k1 => k_is)
    (case a2 => k_is)
    (case l2 => k_is)
    (case c2 => k_is)
    (case k2 => k_is)
    (case a3 => k_is)
    (case l3 => k_is)
    (case c3 => k_is)
    (case k3 => k_is)
    (case a4 => k_is)
    (case l4 => k_is)
    (case c4 => k_is)
    (case k4 => k_is)
    (case a5 => k_is)
    (case l5 => k_is)
    (case c5 => k_is)
    (case k5 => k_is)
    (case a6 => k_is)
    (case l6 => k_is)
    (case c6 => k_is)
    (case k6 => k_is)
    (case a7 => k_is)
    (case l7 => k_is)
    (case c7 => k_is)
    (case k7 => k_is)
    (case a8 => k_is)
    (case l8 => k_is)
    (case c8 => k_is)
    (case k8 => k_is)
    (case a9 => k_is)
    (case l9 => k_is)
    (case c9 => k_is)
    (case k9 => k_is)
    (case a10 => k_is)
    (case l10 => k_is)
    (case c10 => k_is)
    (case k10 => k_is)
    (case a11 => k_is)
    (case l11 => k_is)
    (case c11 => k_is)
    (case k11 => k_is)
    (case a12 => k_is)
    (case l12 => k_is)
    (case c12 => k_is)
    (case k12 => k_is)
    (case a13 => k_is)
    (case l13 => k_is)
    (case c13 => k_is)
    (case k13 => k_is)
    (case a14 => k_is)
    (case l14 => k_is)
    (case c14 => k_is)
    (case k14 => k_is)
    (case a15 => k_is)
    (case l15 => k_is)
    (case c15 => k_is)
    (case k15 => k_is)
    (case a16 => k_is)
    (case l16 => k_is)
    (case c16 => k_is)
    (case k16 => k_is)
    (case a17 => k_is)
    (case l17 => k_is)
    (case c17 => k_is)
    (case k17 => k_is)
    (case a18 => k_is)
    (case l18 => k_is)
    (case c18 => k_is)
    (case k18 => k_is)
    (case a19 => k_is)
    (case l19 => k_is)
    (case c19 => k_is)
    (case k19 => k_is)
    (case z_abs => k_is)
    (case z_all => k_is)
    (case z_int => k_is)
    (case z_isinstance => k_is)
    (case z_len => k_is)
    (case z_list => k_is)
    (case z_max => k_is)
    (case z_min => k_is)
    (case z_range => k_is)
    (case z_repr => k_is)
    (case z_tuple => k_is)

