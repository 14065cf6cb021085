import PyProof.Rows.All
import HandS.ForMost
import HandS.Wide
import KE.SortData
import KE.DataMinMax
import HandS.IsInst
import PyProof.ReprRoads
import HandS.Deep
import PyProof.ReprBulk
import HandS.Style
import HandS.TupLe
import HandS.TupAny
import HandS.Strs
import HandS.TupSets
import HandS.Conv
import PySem.Challenge.RW_cutwright_k70_whole_offcuts
set_option Elab.async false
set_option linter.all false
set_option maxRecDepth 100000
set_option Elab.async false
set_option linter.all false
set_option maxRecDepth 100000
namespace Z
open PySem PySem.Spec PyProof.Rows L2

abbrev Fg := PySem.W.Frag
def keyD : Key → PyData
  | .inl i => .int i
  | .inr s => .str s

mutual
inductive Rep (K : Fg) (F : Hp) : V → PyData → Prop
  | non : Rep K F .non .none
  | bl (b : Bool) : Rep K F (.bl b) (.bool b)
  | int (i : Int) : Rep K F (.int i) (.int i)
  | str (x : Str) : Rep K F (.str x) (.str x)
  | lst {a : Addr} {xs : List V} {ds : List PyData} : F a = some (.lst xs) → RepAll K F xs ds → Rep K F (.ref a) (.list ds)
  | tup {a : Addr} {xs : List V} {ds : List PyData} : SqT K F a xs → RepAll K F xs ds → Rep K F (.ref a) (.tuple ds)
  | dK {a : Addr} {kvs : List (Key × V)} {ds : List PyData} : Rd F a (.dK kvs) → RepAll K F (kvs.map (·.2)) ds → Rep K F (.ref a) (.dict ((kvs.map fun p => keyD p.1).zip ds))
  | dT {a : Addr} {kvs : List (List Key × V)} {ds : List PyData} : Rd F a (.dT kvs) → RepAll K F (kvs.map (·.2)) ds → Rep K F (.ref a) (.dict ((kvs.map fun p => PyData.tuple (p.1.map keyD)).zip ds))
inductive RepAll (K : Fg) (F : Hp) : List V → List PyData → Prop
  | nil : RepAll K F [] []
  | cons {v : V} {vs : List V} {d : PyData} {ds : List PyData} : Rep K F v d → RepAll K F vs ds → RepAll K F (v :: vs) (d :: ds)
end

theorem same_rd {F F' : Hp} (s : Same F F') {a : Addr} {u : HO} (h : Rd F a u) : Rd F' a u := by
  rcases h with h | ⟨o, h⟩
  · exact .inl (s _ _ h)
  · exact .inr ⟨o, s _ _ h⟩
theorem same_sqT {K : Fg} {F F' : Hp} (s : Same F F') {a : Addr} {xs : List V} (h : SqT K F a xs) : SqT K F' a xs := by
  rcases h with h | h
  · exact .inl (same_rd s h)
  · exact .inr h
mutual
theorem Rep.mono {K : Fg} {F F' : Hp} (s : Same F F') : ∀ {v : V} {d : PyData}, Rep K F v d → Rep K F' v d
  | _, _, .non => .non
  | _, _, .bl b => .bl b
  | _, _, .int i => .int i
  | _, _, .str x => .str x
  | _, _, .lst h r => .lst (s _ _ h) (RepAll.mono s r)
  | _, _, .tup h r => .tup (same_sqT s h) (RepAll.mono s r)
  | _, _, .dK h r => .dK (same_rd s h) (RepAll.mono s r)
  | _, _, .dT h r => .dT (same_rd s h) (RepAll.mono s r)
theorem RepAll.mono {K : Fg} {F F' : Hp} (s : Same F F') : ∀ {vs : List V} {ds : List PyData}, RepAll K F vs ds → RepAll K F' vs ds
  | _, _, .nil => .nil
  | _, _, .cons h r => .cons (Rep.mono s h) (RepAll.mono s r)
end
theorem RepAll.length {K : Fg} {F : Hp} : ∀ {vs : List V} {ds : List PyData}, RepAll K F vs ds → vs.length = ds.length
  | _, _, .nil => rfl
  | _, _, .cons _ r => congrArg (· + 1) (RepAll.length r)
theorem RepAll.app {K : Fg} {F : Hp} : ∀ {vs ws : List V} {ds es : List PyData}, RepAll K F vs ds → RepAll K F ws es → RepAll K F (vs ++ ws) (ds ++ es)
  | _, _, _, _, .nil, q => q
  | _, _, _, _, .cons h r, q => .cons h (RepAll.app r q)
theorem RepAll.get {K : Fg} {F : Hp} : ∀ {vs : List V} {ds : List PyData} {i : Nat} {d : PyData}, RepAll K F vs ds → ds[i]? = some d → ∃ v, vs[i]? = some v ∧ Rep K F v d
  | _, _, _, _, .nil, e => by simp at e
  | _, _, 0, _, .cons h _, e => ⟨_, rfl, by simp at e; exact e ▸ h⟩
  | _, _, i + 1, _, .cons _ r, e => by
    obtain ⟨v, h1, h2⟩ := RepAll.get (i := i) r (by simpa using e)
    exact ⟨v, by simpa using h1, h2⟩
theorem RepAll.getv {K : Fg} {F : Hp} : ∀ {vs : List V} {ds : List PyData} {i : Nat} {v : V}, RepAll K F vs ds → vs[i]? = some v → ∃ d, ds[i]? = some d ∧ Rep K F v d
  | _, _, _, _, .nil, e => by simp at e
  | _, _, 0, _, .cons h _, e => ⟨_, rfl, by simp at e; exact e ▸ h⟩
  | _, _, i + 1, _, .cons _ r, e => by
    obtain ⟨v, h1, h2⟩ := RepAll.getv (i := i) r (by simpa using e)
    exact ⟨v, by simpa using h1, h2⟩
theorem RepAll.set {K : Fg} {F : Hp} {v : V} {d : PyData} (h : Rep K F v d) : ∀ {vs : List V} {ds : List PyData} {i : Nat}, RepAll K F vs ds → RepAll K F (vs.set i v) (ds.set i d)
  | _, _, _, .nil => .nil
  | _, _, 0, .cons _ r => .cons h r
  | _, _, i + 1, .cons q r => .cons q (RepAll.set h r)
theorem RepAll.take {K : Fg} {F : Hp} : ∀ {vs : List V} {ds : List PyData} (n : Nat), RepAll K F vs ds → RepAll K F (vs.take n) (ds.take n)
  | _, _, 0, _ => .nil
  | _, _, _ + 1, .nil => .nil
  | _, _, n + 1, .cons h r => .cons h (RepAll.take n r)
theorem RepAll.drop {K : Fg} {F : Hp} : ∀ {vs : List V} {ds : List PyData} (n : Nat), RepAll K F vs ds → RepAll K F (vs.drop n) (ds.drop n)
  | _, _, 0, r => r
  | _, _, _ + 1, .nil => .nil
  | _, _, n + 1, .cons _ r => RepAll.drop n r

/-! ### what a value of Lean stands for -/
structure Enc (τ : Type) where
  enc : τ → PyData
  inj : ∀ a b, enc a = enc b → a = b
def eI : Enc Int := ⟨.int, fun _ _ h => by injection h⟩
def eB : Enc Bool := ⟨.bool, fun _ _ h => by injection h⟩
def eS : Enc Str := ⟨.str, fun _ _ h => by injection h⟩
def eN : Enc Unit := ⟨fun _ => .none, fun _ _ _ => rfl⟩
def eD : Enc PyData := ⟨id, fun _ _ h => h⟩
theorem map_inj {α β : Type} {f : α → β} (h : ∀ a b, f a = f b → a = b) : ∀ {xs ys : List α}, xs.map f = ys.map f → xs = ys
  | [], [], _ => rfl
  | [], _ :: _, e => by simp at e
  | _ :: _, [], e => by simp at e
  | x :: xs, y :: ys, e => by
    simp only [List.map_cons, List.cons.injEq] at e
    rw [h _ _ e.1, map_inj h e.2]
def eL {τ : Type} (E : Enc τ) : Enc (List τ) := ⟨fun xs => .list (xs.map E.enc), fun _ _ h => map_inj E.inj (by injection h)⟩
def eV {τ : Type} (E : Enc τ) : Enc (List τ) := ⟨fun xs => .tuple (xs.map E.enc), fun _ _ h => map_inj E.inj (by injection h)⟩
def eT2 {α β : Type} (A : Enc α) (B : Enc β) : Enc (α × β) := ⟨fun p => .tuple [A.enc p.1, B.enc p.2], fun a b h => by
  injection h with h
  simp only [List.cons.injEq, and_true] at h
  exact Prod.ext (A.inj _ _ h.1) (B.inj _ _ h.2)⟩
def eT3 {α β γ : Type} (A : Enc α) (B : Enc β) (G : Enc γ) : Enc (α × β × γ) := ⟨fun p => .tuple [A.enc p.1, B.enc p.2.1, G.enc p.2.2], fun a b h => by
  injection h with h
  simp only [List.cons.injEq, and_true] at h
  exact Prod.ext (A.inj _ _ h.1) (Prod.ext (B.inj _ _ h.2.1) (G.inj _ _ h.2.2))⟩
def eT4 {α β γ δ : Type} (A : Enc α) (B : Enc β) (G : Enc γ) (D : Enc δ) : Enc (α × β × γ × δ) := ⟨fun p => .tuple [A.enc p.1, B.enc p.2.1, G.enc p.2.2.1, D.enc p.2.2.2], fun a b h => by
  injection h with h
  simp only [List.cons.injEq, and_true] at h
  exact Prod.ext (A.inj _ _ h.1) (Prod.ext (B.inj _ _ h.2.1) (Prod.ext (G.inj _ _ h.2.2.1) (D.inj _ _ h.2.2.2)))⟩
def eT5 {α β γ δ ε : Type} (A : Enc α) (B : Enc β) (G : Enc γ) (D : Enc δ) (E : Enc ε) : Enc (α × β × γ × δ × ε) := ⟨fun p => .tuple [A.enc p.1, B.enc p.2.1, G.enc p.2.2.1, D.enc p.2.2.2.1, E.enc p.2.2.2.2], fun a b h => by
  injection h with h
  simp only [List.cons.injEq, and_true] at h
  exact Prod.ext (A.inj _ _ h.1) (Prod.ext (B.inj _ _ h.2.1) (Prod.ext (G.inj _ _ h.2.2.1) (Prod.ext (D.inj _ _ h.2.2.2.1) (E.inj _ _ h.2.2.2.2))))⟩
def eO {τ : Type} (E : Enc τ) (hn : ∀ a, E.enc a ≠ .none) : Enc (Option τ) := ⟨fun o => match o with | none => .none | some a => E.enc a, fun a b h => by
  cases a <;> cases b
  · rfl
  · exact absurd h.symm (hn _)
  · exact absurd h (hn _)
  · exact congrArg some (E.inj _ _ h)⟩

/-! ### how a slot holds a value: shared data, or objects of its own -/
def grow (F H : Hp) (fp : List Addr) : Hp := fun a => if a ∈ fp then H a else F a
structure Stor (τ : Type) where
  rel : Fg → Hp → Hp → List Addr → V → τ → Prop
  monoF : ∀ {K F F' H fp v x}, Same F F' → rel K F H fp v x → rel K F' H fp v x
  frame : ∀ {K F H H' fp v x}, (∀ a ∈ fp, H' a = H a) → rel K F H fp v x → rel K F H' fp v x
/-- it may be made shared data -/
structure Frz {τ : Type} (S : Stor τ) (E : Enc τ) : Prop where
  frz : ∀ {K F H fp v x}, (∀ a ∈ fp, F a = none) → S.rel K F H fp v x → Rep K (grow F H fp) v (E.enc x)
/-- it owns nothing: it may be told twice -/
structure Cp {τ : Type} (S : Stor τ) : Prop where
  nil : ∀ {K F H fp v x}, S.rel K F H fp v x → fp = []
theorem grow_nil {F H : Hp} : grow F H [] = F := by funext a; simp [grow]
theorem same_grow {F H : Hp} {fp : List Addr} (h : ∀ a ∈ fp, F a = none) : Same F (grow F H fp) := fun a o e => by
  unfold grow
  by_cases m : a ∈ fp
  · rw [h a m] at e; cases e
  · rw [if_neg m]; exact e
theorem grow_sub {F H : Hp} {fp fq : List Addr} (h : ∀ a ∈ fq, F a = none) (s : ∀ a ∈ fp, a ∈ fq) : Same (grow F H fp) (grow F H fq) := fun a o e => by
  unfold grow at e ⊢
  by_cases m : a ∈ fp
  · rw [if_pos m] at e; rw [if_pos (s a m)]; exact e
  · rw [if_neg m] at e
    by_cases m' : a ∈ fq
    · rw [h a m'] at e; cases e
    · rw [if_neg m']; exact e
def it {τ : Type} (E : Enc τ) : Stor τ where
  rel := fun K F _ fp v x => fp = [] ∧ Rep K F v (E.enc x)
  monoF := fun s h => ⟨h.1, h.2.mono s⟩
  frame := fun _ h => h
theorem fz_it {τ : Type} {E : Enc τ} : Frz (it E) E := ⟨fun _ h => by obtain ⟨rfl, r⟩ := h; rw [grow_nil]; exact r⟩
theorem cp_it {τ : Type} {E : Enc τ} : Cp (it E) := ⟨fun h => h.1⟩
/-- a list of ints that stands for good (the script) -/
def scr : Stor (List Int) where
  rel := fun K F _ fp v xs => fp = [] ∧ ∃ a, v = .ref a ∧ SqL K F a (xs.map V.int)
  monoF := fun s h => by obtain ⟨e, a, e2, q⟩ := h; exact ⟨e, a, e2, s.seq q⟩
  frame := fun _ h => h
theorem cp_scr : Cp scr := ⟨fun h => h.1⟩
inductive RelAll {τ : Type} (R : List Addr → V → τ → Prop) : List Addr → List V → List τ → Prop
  | nil : RelAll R [] [] []
  | cons {fp fps v vs x xs} : R fp v x → RelAll R fps vs xs → RelAll R (fp ++ fps) (v :: vs) (x :: xs)
theorem RelAll.imp {τ : Type} {R R' : List Addr → V → τ → Prop} : ∀ {fp : List Addr} {vs : List V} {xs : List τ}, (∀ fq v x, (∀ a ∈ fq, a ∈ fp) → R fq v x → R' fq v x) → RelAll R fp vs xs → RelAll R' fp vs xs
  | _, _, _, _, .nil => .nil
  | _, _, _, f, .cons h r => .cons (f _ _ _ (fun a m => List.mem_append_left _ m) h) (RelAll.imp (fun fq v x s q => f fq v x (fun a m => List.mem_append_right _ (s a m)) q) r)
theorem RelAll.rep {τ : Type} {E : Enc τ} {K : Fg} {F : Hp} {R : List Addr → V → τ → Prop} : ∀ {fp : List Addr} {vs : List V} {xs : List τ}, (∀ fq v x, (∀ a ∈ fq, a ∈ fp) → R fq v x → Rep K F v (E.enc x)) → RelAll R fp vs xs → RepAll K F vs (xs.map E.enc)
  | _, _, _, _, .nil => .nil
  | _, _, _, f, .cons h r => .cons (f _ _ _ (fun a m => List.mem_append_left _ m) h) (RelAll.rep (fun fq v x s q => f fq v x (fun a m => List.mem_append_right _ (s a m)) q) r)
def ls {τ : Type} (S : Stor τ) : Stor (List τ) where
  rel := fun K F H fp v xs => ∃ p vs fps, v = .ref p ∧ H p = some (.lst vs) ∧ RelAll (S.rel K F H) fps vs xs ∧ fp = p :: fps
  monoF := fun s h => by
    obtain ⟨p, vs, fps, rfl, hp, r, rfl⟩ := h
    exact ⟨p, vs, fps, rfl, hp, r.imp fun _ _ _ _ q => S.monoF s q, rfl⟩
  frame := fun f h => by
    obtain ⟨p, vs, fps, rfl, hp, r, rfl⟩ := h
    exact ⟨p, vs, fps, rfl, by rw [f p List.mem_cons_self]; exact hp, r.imp fun fq _ _ s q => S.frame (fun a m => f a (List.mem_cons_of_mem _ (s a m))) q, rfl⟩
theorem fz_ls {τ : Type} {S : Stor τ} {E : Enc τ} (fz : Frz S E) : Frz (ls S) (eL E) := ⟨fun n h => by
  obtain ⟨p, vs, fps, rfl, hp, r, rfl⟩ := h
  refine .lst ?_ (r.rep fun fq v x s q => ?_)
  · show (if p ∈ p :: fps then _ else _) = _
    rw [if_pos List.mem_cons_self]; exact hp
  · exact (fz.frz (fun a m => n a (List.mem_cons_of_mem _ (s a m))) q).mono (grow_sub n fun a m => List.mem_cons_of_mem _ (s a m))⟩

inductive Slot : Type 1
  | un
  | st (w : Option V) (τ : Type) (S : Stor τ) (x : τ)
  | lk (τ : Type) (S : Stor τ) (x : τ)
abbrev Env := List Slot
abbrev Slot.sh {τ : Type} (E : Enc τ) (x : τ) : Slot := .st none τ (it E) x
abbrev Slot.ow {τ : Type} (S : Stor τ) (x : τ) : Slot := .st none τ S x

structure Ck where
  K : Fg
  B : Hp
  F0 : Hp
  He : Hp
  io : List Addr
def SlotOk (C : Ck) (F H : Hp) (o : Option V) : Slot → List Addr → Prop
  | .un, fp => fp = []
  | .st w _ S x, fp => ∃ v, o = some v ∧ S.rel C.K F H fp v x ∧ (match w with | none => ∀ a ∈ fp, C.He a = none | some v0 => v = v0 ∧ ∀ a ∈ fp, C.He a = none ∨ a ∈ C.io)
  | .lk _ S x, fp => fp = [] ∧ ∃ v fq, o = some v ∧ S.rel C.K F H fq v x ∧ ∀ a ∈ fq, C.B a ≠ none
theorem SlotOk.go {C : Ck} {F F' H H' : Hp} {o : Option V} {s : Slot} {fp : List Addr} (sF : Same F F') (hB : ∀ a, C.B a ≠ none → H' a = H a) (h : ∀ a ∈ fp, H' a = H a) (k : SlotOk C F H o s fp) : SlotOk C F' H' o s fp := by
  cases s with
  | un => exact k
  | st w τ S x => obtain ⟨v, e, r, q⟩ := k; exact ⟨v, e, S.monoF sF (S.frame h r), q⟩
  | lk τ S x => obtain ⟨e, v, fq, e2, r, q⟩ := k; exact ⟨e, v, fq, e2, S.monoF sF (S.frame (fun a m => hB a (q a m)) r), q⟩
/-- the footprints of the slots -/
structure Fps (C : Ck) (F H : Hp) (σ : List (Option V)) (env : Env) (fp : Nat → List Addr) : Prop where
  ok : ∀ i s, env[i]? = some s → SlotOk C F H (σ[i]?.join) s (fp i)
  own : ∀ i, i < env.length → ∀ a ∈ fp i, C.B a = none ∧ F a = none ∧ H a ≠ none
  sep : ∀ i j, i < env.length → j < env.length → ∀ a, a ∈ fp i → a ∈ fp j → i = j
  nd : ∀ i, i < env.length → (fp i).Nodup
structure ER (C : Ck) (F H : Hp) (σ : List (Option V)) (env : Env) : Prop where
  sB : Same C.B H
  sF : Same F H
  gr : ∀ a, F a ≠ none → C.F0 a ≠ none ∨ C.He a = none
  up : ∀ a, C.He a ≠ none → H a ≠ none
  len : σ.length = env.length
  sl : ∃ fp, Fps C F H σ env fp

section
variable {C : Ck} {F F' H H' : Hp} {σ : List (Option V)} {env : Env} {o : Option V} {s : Slot} {τ : Type} {S : Stor τ} {E : Enc τ} {x : τ} {v : V} {w : Option V} {i : Nat} {p : Addr} {u : HO}
theorem same_some {H H' : Hp} (s : Same H H') {a : Addr} (h : H a ≠ none) : H' a ≠ none := by
  cases e : H a with
  | none => exact absurd e h
  | some o => rw [s a o e]; exact fun z => by cases z
theorem same_eq {H H' : Hp} (s : Same H H') {a : Addr} (h : H a ≠ none) : H' a = H a := by
  cases e : H a with
  | none => exact absurd e h
  | some o => exact s a o e
theorem ER.look (h : ER C F H σ env) (e : env[i]? = some (.st w τ S x)) : ∃ v fp, σ[i]? = some (some v) ∧ S.rel C.K F H fp v x := by
  obtain ⟨fp, q⟩ := h.sl
  obtain ⟨v, e1, r, _⟩ := q.ok i _ e
  refine ⟨v, fp i, ?_, r⟩
  cases z : σ[i]? with
  | none => rw [z] at e1; cases e1
  | some o => rw [z] at e1; exact congrArg some e1
theorem ER.lookK (h : ER C F H σ env) (e : env[i]? = some (.lk τ S x)) : ∃ v fp, σ[i]? = some (some v) ∧ S.rel C.K F H fp v x := by
  obtain ⟨fp, q⟩ := h.sl
  obtain ⟨_, v, fq, e1, r, _⟩ := q.ok i _ e
  refine ⟨v, fq, ?_, r⟩
  cases z : σ[i]? with
  | none => rw [z] at e1; cases e1
  | some o => rw [z] at e1; exact congrArg some e1
theorem ER.rep (h : ER C F H σ env) (e : env[i]? = some (.st w τ (it E) x)) : ∃ v, σ[i]? = some (some v) ∧ Rep C.K F v (E.enc x) := by
  obtain ⟨v, fp, e1, r⟩ := h.look e
  exact ⟨v, e1, r.2⟩
theorem Fps.push {fp : Nat → List Addr} (q : Fps C F H σ env fp) {fq : List Addr} (ok : SlotOk C F H o s fq) (ow : ∀ a ∈ fq, C.B a = none ∧ F a = none ∧ H a ≠ none) (nd : fq.Nodup) (df : ∀ i, i < env.length → ∀ a ∈ fp i, a ∉ fq) :
    Fps C F H (o :: σ) (s :: env) (fun | 0 => fq | i + 1 => fp i) := by
  refine ⟨?_, ?_, ?_, ?_⟩
  · intro i s' e
    cases i with
    | zero => simp at e; subst e; exact ok
    | succ i => exact q.ok i s' (by simpa using e)
  · intro i hi a ha
    cases i with
    | zero => exact ow a ha
    | succ i => exact q.own i (by simpa using hi) a ha
  · intro i j hi hj a ha hb
    cases i with
    | zero => cases j with
      | zero => rfl
      | succ j => exact absurd ha (df j (by simpa using hj) a hb)
    | succ i => cases j with
      | zero => exact absurd hb (df i (by simpa using hi) a ha)
      | succ j => exact congrArg (· + 1) (q.sep i j (by simpa using hi) (by simpa using hj) a ha hb)
  · intro i hi
    cases i with
    | zero => exact nd
    | succ i => exact q.nd i (by simpa using hi)
theorem ER.push0 (h : ER C F H σ env) (ok : SlotOk C F H o s []) : ER C F H (o :: σ) (s :: env) := by
  obtain ⟨fp, q⟩ := h.sl
  exact ⟨h.sB, h.sF, h.gr, h.up, by simp [h.len], _, q.push ok (fun _ m => nomatch m) List.nodup_nil fun _ _ _ _ m => nomatch m⟩
theorem ER.pushSh (h : ER C F H σ env) (r : Rep C.K F v (E.enc x)) : ER C F H (some v :: σ) (.st none τ (it E) x :: env) :=
  h.push0 ⟨v, rfl, ⟨rfl, r⟩, fun _ m => nomatch m⟩
theorem ER.pushUn (h : ER C F H σ env) : ER C F H (o :: σ) (.un :: env) := h.push0 rfl
theorem ER.pop (h : ER C F H (o :: σ) (s :: env)) : ER C F H σ env := by
  obtain ⟨fp, q⟩ := h.sl
  exact ⟨h.sB, h.sF, h.gr, h.up, by simpa using h.len, fun i => fp (i + 1), fun i s e => q.ok (i + 1) s (by simpa using e), fun i hi => q.own (i + 1) (by simpa using hi),
    fun i j hi hj a ha hb => Nat.succ.inj (q.sep (i + 1) (j + 1) (by simpa using hi) (by simpa using hj) a ha hb), fun i hi => q.nd (i + 1) (by simpa using hi)⟩
theorem ER.popN : ∀ {vs : List (Option V)} {es : Env}, vs.length = es.length → ER C F H (vs ++ σ) (es ++ env) → ER C F H σ env
  | [], [], _, h => h
  | [], _ :: _, e, _ => by simp at e
  | _ :: _, [], e, _ => by simp at e
  | _ :: vs, _ :: es, e, h => ER.popN (vs := vs) (es := es) (by simpa using e) h.pop
theorem Fps.grow {fp : Nat → List Addr} (h : ER C F H σ env) (q : Fps C F H σ env fp) (sH : Same H H') (sF : Same F F') (n : ∀ a, F' a ≠ none → F a ≠ none ∨ H a = none) : Fps C F' H' σ env fp := by
  refine ⟨fun i s e => ?_, fun i hi a ha => ?_, q.sep, q.nd⟩
  · refine (q.ok i s e).go sF (fun a m => same_eq sH (same_some h.sB m)) fun a ha => same_eq sH ?_
    exact (q.own i (by obtain ⟨hi, _⟩ := List.getElem?_eq_some_iff.mp e; exact hi) a ha).2.2
  · obtain ⟨b, f, c⟩ := q.own i hi a ha
    refine ⟨b, ?_, same_some sH c⟩
    cases e : F' a with
    | none => rfl
    | some o =>
      rcases n a (by rw [e]; exact fun z => by cases z) with z | z
      · exact absurd f z
      · exact absurd z c
/-- the heap grows by objects that no slot holds; what is frozen may grow by new ones -/
theorem ER.grow (h : ER C F H σ env) (sH : Same H H') (sF : Same F F') (sF' : Same F' H') (n : ∀ a, F' a ≠ none → F a ≠ none ∨ H a = none) : ER C F' H' σ env := by
  obtain ⟨fp, q⟩ := h.sl
  refine ⟨fun a o e => sH a o (h.sB a o e), sF', fun a m => ?_, fun a m => same_some sH (h.up a m), h.len, fp, q.grow h sH sF n⟩
  rcases n a m with z | z
  · exact h.gr a z
  · refine .inr ?_
    cases e : C.He a with
    | none => rfl
    | some o => exact absurd z (h.up a (by rw [e]; exact fun z => by cases z))
theorem same_new (n : H p = none) : Same H (upd H p u) := fun b o e => by rw [upd_ne (ne_of_none e n)]; exact e
theorem ER.fnone (h : ER C F H σ env) (n : H p = none) : F p = none := by
  cases e : F p with
  | none => rfl
  | some o => rw [h.sF p o e] at n; cases n
theorem ER.bnone (h : ER C F H σ env) (n : H p = none) : C.B p = none := by
  cases e : C.B p with
  | none => rfl
  | some o => rw [h.sB p o e] at n; cases n
theorem ER.hnone (h : ER C F H σ env) (n : H p = none) : C.He p = none := by
  cases e : C.He p with
  | none => rfl
  | some o => exact absurd n (h.up p (by rw [e]; exact fun z => by cases z))
theorem ER.newF (h : ER C F H σ env) (n : H p = none) : ER C (upd F p u) (upd H p u) σ env := by
  refine h.grow (same_new n) (same_new (h.fnone n)) (fun a o e => ?_) fun a m => ?_
  · by_cases z : a = p
    · subst z; rw [upd_same] at e ⊢; exact e
    · rw [upd_ne z] at e ⊢; exact h.sF a o e
  · by_cases z : a = p
    · subst z; exact .inr n
    · rw [upd_ne z] at m; exact .inl m
theorem ER.newH (h : ER C F H σ env) (n : H p = none) : ER C F (upd H p u) σ env :=
  h.grow (same_new n) (fun _ _ e => e) (fun a o e => same_new n a o (h.sF a o e)) fun a m => .inl m
/-- a new object of one's own -/
theorem ER.newOw (h : ER C F H σ env) (n : H p = none) (r : S.rel C.K F (upd H p u) [p] v x) : ER C F (upd H p u) (some v :: σ) (.st none τ S x :: env) := by
  have h' := h.newH (u := u) n
  obtain ⟨fp, q⟩ := h.sl
  have q' := q.grow h (same_new (u := u) n) (fun _ _ e => e) fun a m => .inl m
  refine ⟨h'.sB, h'.sF, h'.gr, h'.up, by simp [h'.len], _, q'.push (fq := [p]) ⟨v, rfl, r, fun a m => ?_⟩ (fun a m => ?_) (by simp) fun i hi a ha m => ?_⟩
  · simp at m; subst m; exact h.hnone n
  · simp at m; subst m; exact ⟨h.bnone n, h.fnone n, by rw [upd_same]; exact fun z => by cases z⟩
  · simp at m; subst m; exact (q.own i hi a ha).2.2 n
/-- a slot's objects are changed by themselves -/
theorem ER.mut (h : ER C F H σ env) (e : env[i]? = some (.st w τ S x)) : ∃ v fp, σ[i]? = some (some v) ∧ S.rel C.K F H fp v x ∧ fp.Nodup ∧ (∀ a ∈ fp, C.B a = none ∧ F a = none ∧ H a ≠ none) ∧
    ∀ (τ' : Type) (S' : Stor τ') (x' : τ') (H' : Hp) (fp' : List Addr), (∀ a, a ∉ fp → H a ≠ none → H' a = H a) → (∀ a, H a ≠ none → H' a ≠ none) → S'.rel C.K F H' fp' v x' → fp'.Nodup → (∀ a ∈ fp', H' a ≠ none ∧ (a ∈ fp ∨ H a = none)) → ER C F H' σ (env.set i (.st w τ' S' x')) := by
  obtain ⟨fp, q⟩ := h.sl
  obtain ⟨hi, _⟩ := List.getElem?_eq_some_iff.mp e
  obtain ⟨v, e1, r, k⟩ := q.ok i _ e
  have e1' : σ[i]? = some (some v) := by
    cases z : σ[i]? with
    | none => rw [z] at e1; cases e1
    | some o => rw [z] at e1; exact congrArg some e1
  refine ⟨v, fp i, e1', r, q.nd i hi, q.own i hi, fun τ' S' x' H' fp' hk hs r' nd' sub => ?_⟩
  have bne : ∀ a, C.B a ≠ none → a ∉ fp i := fun a m z => m (q.own i hi a z).1
  refine ⟨fun a o m => ?_, fun a o m => ?_, h.gr, fun a m => hs a (h.up a m), by simp [h.len], fun j => if j = i then fp' else fp j, fun j s' ej => ?_, fun j hj a ha => ?_, fun j l hj hl a ha hb => ?_, fun j hj => ?_⟩
  · have m' : C.B a ≠ none := by rw [m]; exact fun z => by cases z
    rw [hk a (bne a m') (same_some h.sB m')]; exact h.sB a o m
  · have m' : F a ≠ none := by rw [m]; exact fun z => by cases z
    rw [hk a (fun z => m' (q.own i hi a z).2.1) (same_some h.sF m')]; exact h.sF a o m
  · by_cases z : j = i
    · subst z
      rw [List.getElem?_set_self hi] at ej
      cases ej
      refine ⟨v, e1, ?_, ?_⟩
      · simpa using r'
      · simp only [if_pos]
        cases w with
        | none =>
          intro a ha
          rcases (sub a ha).2 with m | m
          · exact k a m
          · exact h.hnone m
        | some v0 =>
          refine ⟨k.1, fun a ha => ?_⟩
          rcases (sub a ha).2 with m | m
          · exact k.2 a m
          · exact .inl (h.hnone m)
    · rw [List.getElem?_set_ne (fun y => z y.symm)] at ej
      have hj : j < env.length := (List.getElem?_eq_some_iff.mp ej).1
      simp only [if_neg z]
      refine (q.ok j s' ej).go (fun _ _ y => y) (fun a m => hk a (bne a m) (same_some h.sB m)) fun a ha => ?_
      exact hk a (fun y => z (q.sep j i hj hi a ha y)) (q.own j hj a ha).2.2
  · have hj' : j < env.length := by simpa using hj
    by_cases z : j = i
    · subst z
      simp only [if_pos] at ha
      obtain ⟨m1, m⟩ := sub a ha
      rcases m with m | m
      · exact ⟨(q.own j hi a m).1, (q.own j hi a m).2.1, m1⟩
      · exact ⟨h.bnone m, h.fnone m, m1⟩
    · simp only [if_neg z] at ha
      obtain ⟨b, f, c⟩ := q.own j hj' a ha
      exact ⟨b, f, hs a c⟩
  · have hj' : j < env.length := by simpa using hj
    have hl' : l < env.length := by simpa using hl
    by_cases zj : j = i
    · by_cases zl : l = i
      · rw [zj, zl]
      · simp only [if_pos zj] at ha
        simp only [if_neg zl] at hb
        rcases (sub a ha).2 with m | m
        · rw [zj]; exact q.sep i l hi hl' a m hb
        · exact absurd m (q.own l hl' a hb).2.2
    · simp only [if_neg zj] at ha
      by_cases zl : l = i
      · simp only [if_pos zl] at hb
        rcases (sub a hb).2 with m | m
        · rw [zl]; exact q.sep j i hj' hi a ha m
        · exact absurd m (q.own j hj' a ha).2.2
      · simp only [if_neg zl] at hb
        exact q.sep j l hj' hl' a ha hb
  · have hj' : j < env.length := by simpa using hj
    by_cases z : j = i
    · simp only [if_pos z]; exact nd'
    · simp only [if_neg z]; exact q.nd j hj'
/-- what a slot owns is frozen: from here on it is shared -/
theorem ER.freeze (h : ER C F H σ env) (fz : Frz S E) (e : env[i]? = some (.st none τ S x)) : ∃ F', Same F F' ∧ ER C F' H σ (env.set i (.st none τ (it E) x)) := by
  obtain ⟨fp, q⟩ := h.sl
  obtain ⟨hi, _⟩ := List.getElem?_eq_some_iff.mp e
  obtain ⟨v, e1, r, k⟩ := q.ok i _ e
  have fn : ∀ a ∈ fp i, F a = none := fun a m => (q.own i hi a m).2.1
  have sF : Same F (Z.grow F H (fp i)) := same_grow fn
  have bne : ∀ a, C.B a ≠ none → a ∉ fp i := fun a m z => m (q.own i hi a z).1
  refine ⟨Z.grow F H (fp i), sF, h.sB, fun a o m => ?_, fun a m => ?_, h.up, by simp [h.len], fun j => if j = i then [] else fp j, fun j s' ej => ?_, fun j hj a ha => ?_, fun j l hj hl a ha hb => ?_, fun j hj => ?_⟩
  · unfold Z.grow at m
    by_cases z : a ∈ fp i
    · rw [if_pos z] at m; exact m
    · rw [if_neg z] at m; exact h.sF a o m
  · unfold Z.grow at m
    by_cases z : a ∈ fp i
    · exact .inr (k a z)
    · rw [if_neg z] at m; exact h.gr a m
  · by_cases z : j = i
    · subst z
      rw [List.getElem?_set_self hi] at ej
      cases ej
      simp only [if_pos]
      exact ⟨v, e1, ⟨rfl, fz.frz fn r⟩, fun _ m => nomatch m⟩
    · rw [List.getElem?_set_ne (fun y => z y.symm)] at ej
      simp only [if_neg z]
      exact (q.ok j s' ej).go sF (fun a m => rfl) fun a ha => rfl
  · have hj' : j < env.length := by simpa using hj
    by_cases z : j = i
    · simp [if_pos z] at ha
    · simp only [if_neg z] at ha
      obtain ⟨b, f, c⟩ := q.own j hj' a ha
      refine ⟨b, ?_, c⟩
      unfold Z.grow
      rw [if_neg (fun y => z (q.sep j i hj' hi a ha y))]; exact f
  · have hj' : j < env.length := by simpa using hj
    have hl' : l < env.length := by simpa using hl
    by_cases zj : j = i
    · simp [if_pos zj] at ha
    · by_cases zl : l = i
      · simp [if_pos zl] at hb
      · simp only [if_neg zj] at ha
        simp only [if_neg zl] at hb
        exact q.sep j l hj' hl' a ha hb
  · have hj' : j < env.length := by simpa using hj
    by_cases z : j = i
    · simp [if_pos z]
    · simp only [if_neg z]; exact q.nd j hj'
/-- slots renamed: f tells where each new slot stood; each is taken once or owns nothing -/
theorem ER.perm {σ' : List (Option V)} {env' : Env} (h : ER C F H σ env) (len : σ'.length = env'.length) (f : Nat → Nat)
    (hf : ∀ j s', env'[j]? = some s' → s' = .un ∨ (env[f j]? = some s' ∧ σ'[j]?.join = σ[f j]?.join ∧ ∀ l s'', env'[l]? = some s'' → s'' ≠ .un → f l = f j → l = j)) : ER C F H σ' env' := by
  classical
  obtain ⟨fp, q⟩ := h.sl
  refine ⟨h.sB, h.sF, h.gr, h.up, len, fun j => match env'[j]? with | some .un => [] | some _ => fp (f j) | none => [], fun j s' ej => ?_, fun j hj a ha => ?_, fun j l hj hl a ha hb => ?_, fun j hj => ?_⟩
  · simp only [ej]
    rcases hf j s' ej with rfl | ⟨e, eo, _⟩
    · exact rfl
    · have := q.ok (f j) s' e
      rw [← eo] at this
      cases s' with
      | un => exact rfl
      | st _ _ _ _ => exact this
      | lk _ _ _ => exact this
  · cases ej : env'[j]? with
    | none => rw [ej] at ha; cases ha
    | some s' =>
      rcases hf j s' ej with rfl | ⟨e, eo, _⟩
      · rw [ej] at ha; cases ha
      · have ha' : a ∈ fp (f j) := by
          rw [ej] at ha
          cases s' with
          | un => cases ha
          | st _ _ _ _ => exact ha
          | lk _ _ _ => exact ha
        exact q.own (f j) (List.getElem?_eq_some_iff.mp e).1 a ha'
  · cases ej : env'[j]? with
    | none => rw [ej] at ha; cases ha
    | some s' =>
      cases el : env'[l]? with
      | none => rw [el] at hb; cases hb
      | some s'' =>
        rcases hf j s' ej with rfl | ⟨e, eo, u⟩
        · rw [ej] at ha; cases ha
        · rcases hf l s'' el with rfl | ⟨e2, eo2, u2⟩
          · rw [el] at hb; cases hb
          · have ha' : a ∈ fp (f j) := by
              rw [ej] at ha
              cases s' with
              | un => cases ha
              | st _ _ _ _ => exact ha
              | lk _ _ _ => exact ha
            have hb' : a ∈ fp (f l) := by
              rw [el] at hb
              cases s'' with
              | un => cases hb
              | st _ _ _ _ => exact hb
              | lk _ _ _ => exact hb
            have hne : s'' ≠ .un := by
              rintro rfl
              rw [el] at hb; cases hb
            exact (u l s'' el hne (q.sep _ _ (List.getElem?_eq_some_iff.mp e2).1 (List.getElem?_eq_some_iff.mp e).1 a hb' ha')).symm
  · show (match env'[j]? with | some .un => [] | some _ => fp (f j) | none => []).Nodup
    cases ej : env'[j]? with
    | none => exact List.nodup_nil
    | some s' =>
      rcases hf j s' ej with rfl | ⟨e, eo, _⟩
      · exact List.nodup_nil
      · have := q.nd (f j) (List.getElem?_eq_some_iff.mp e).1
        cases s' with
        | un => exact List.nodup_nil
        | st _ _ _ _ => exact this
        | lk _ _ _ => exact this
end
end Z

set_option Elab.async false
set_option linter.all false
set_option maxRecDepth 100000
namespace Z
open PySem PySem.Spec PyProof.Rows L2

section
variable {C : Ck} {F F' H H' : Hp} {σ σs σ' : List (Option V)} {env es env' : Env} {o : Option V} {s : Slot} {τ : Type} {S : Stor τ} {E : Enc τ} {x : τ} {v : V} {w : Option V} {i : Nat} {p : Addr} {u : HO}
theorem at_app {α : Type _} {as bs : List α} {i : Nat} (n : Nat) (h : as.length = n) : (as ++ bs)[n + i]? = bs[i]? := by
  subst h; rw [List.getElem?_append_right (Nat.le_add_right _ _), Nat.add_sub_cancel_left]
theorem ER.lookF (h : ER C F H (σs ++ σ) (es ++ env)) (hl : σs.length = es.length) (e : env[i]? = some (.st w τ S x)) : ∃ v fp, σ[i]? = some (some v) ∧ S.rel C.K F H fp v x := by
  obtain ⟨v, fp, a, b⟩ := h.look (i := es.length + i) (by rw [at_app _ rfl]; exact e)
  exact ⟨v, fp, by rw [at_app _ hl] at a; exact a, b⟩
theorem ER.lookKF (h : ER C F H (σs ++ σ) (es ++ env)) (hl : σs.length = es.length) (e : env[i]? = some (.lk τ S x)) : ∃ v fp, σ[i]? = some (some v) ∧ S.rel C.K F H fp v x := by
  obtain ⟨v, fp, a, b⟩ := h.lookK (i := es.length + i) (by rw [at_app _ rfl]; exact e)
  exact ⟨v, fp, by rw [at_app _ hl] at a; exact a, b⟩
theorem ER.repF (h : ER C F H (σs ++ σ) (es ++ env)) (hl : σs.length = es.length) (e : env[i]? = some (.st w τ (it E) x)) : ∃ v, σ[i]? = some (some v) ∧ Rep C.K F v (E.enc x) := by
  obtain ⟨v, fp, a, b⟩ := h.lookF hl e
  exact ⟨v, a, b.2⟩
theorem ER.lenF (h : ER C F H (σs ++ σ) (es ++ env)) (hl : σs.length = es.length) : σ.length = env.length := by
  have := h.len; simp [hl] at this; exact this
/-- the top of the stack goes to slot i -/
theorem ER.asg (h : ER C F H (o :: (σs ++ σ)) (s :: (es ++ env))) (hl : σs.length = es.length) (hi : i < env.length) : ER C F H (σs ++ σ.set i o) (es ++ env.set i s) := by
  have hls : σ.length = env.length := h.pop.lenF hl
  refine h.perm (by simp [hl, hls]) (fun j => if j = es.length + i then 0 else j + 1) fun j s' ej => .inr ?_
  by_cases z : j = es.length + i
  · subst z
    rw [at_app _ rfl, List.getElem?_set_self hi] at ej
    cases ej
    refine ⟨by simp, ?_, fun l s'' _ _ q => ?_⟩
    · simp only [if_pos]
      rw [at_app _ hl, List.getElem?_set_self (by omega)]
      rfl
    · by_cases y : l = es.length + i
      · exact y
      · simp only [if_neg y, if_pos] at q; omega
  · refine ⟨?_, ?_, fun l s'' _ _ q => ?_⟩
    · simp only [if_neg z, List.getElem?_cons_succ]
      by_cases a : j < es.length
      · rw [List.getElem?_append_left a] at ej ⊢; exact ej
      · obtain ⟨m, rfl⟩ : ∃ m, j = es.length + m := ⟨j - es.length, by omega⟩
        rw [at_app _ rfl, List.getElem?_set_ne (by omega)] at ej
        rw [at_app _ rfl]; exact ej
    · simp only [if_neg z, List.getElem?_cons_succ]
      by_cases a : j < es.length
      · rw [List.getElem?_append_left (by omega), List.getElem?_append_left (by omega)]
      · obtain ⟨m, rfl⟩ : ∃ m, j = es.length + m := ⟨j - es.length, by omega⟩
        rw [at_app _ hl, at_app _ hl, List.getElem?_set_ne (by omega)]
    · simp only [if_neg z] at q
      by_cases y : l = es.length + i
      · simp only [if_pos y] at q; omega
      · simp only [if_neg y] at q; omega
/-- weaker slots -/
inductive Sub : Env → Env → Prop
  | nil : Sub [] []
  | keep {s : Slot} {a b : Env} : Sub a b → Sub (s :: a) (s :: b)
  | drop {s : Slot} {a b : Env} : Sub a b → Sub (s :: a) (.un :: b)
theorem Sub.get : ∀ {a b : Env}, Sub a b → ∀ (j : Nat) (s' : Slot), b[j]? = some s' → s' = Slot.un ∨ a[j]? = some s'
  | _, _, .nil, j, s', e => by simp at e
  | _, _, .keep r, 0, s', e => .inr e
  | _, _, .keep r, j + 1, s', e => by simpa using r.get j s' (by simpa using e)
  | _, _, .drop r, 0, s', e => .inl (by simp at e; exact e.symm)
  | _, _, .drop r, j + 1, s', e => by simpa using r.get j s' (by simpa using e)
theorem Sub.len : ∀ {a b : Env}, Sub a b → a.length = b.length
  | _, _, .nil => rfl
  | _, _, .keep r => congrArg (· + 1) r.len
  | _, _, .drop r => congrArg (· + 1) r.len
theorem Sub.refl : ∀ (a : Env), Sub a a
  | [] => .nil
  | _ :: a => .keep (Sub.refl a)
theorem Sub.pre : ∀ (es : Env) {a b : Env}, Sub a b → Sub (es ++ a) (es ++ b)
  | [], _, _, r => r
  | _ :: es, _, _, r => .keep (Sub.pre es r)
theorem ER.sub (h : ER C F H σ env) (q : Sub env env') : ER C F H σ env' :=
  h.perm (by rw [h.len, q.len]) id fun j s' e => (q.get j s' e).imp id fun y => ⟨y, rfl, fun l _ _ _ z => z⟩
theorem ER.subF (h : ER C F H (σs ++ σ) (es ++ env)) (q : Sub env env') : ER C F H (σs ++ σ) (es ++ env') := h.sub (q.pre es)
theorem rot_key {α : Type _} (a : α) (at_ as : List α) {n : Nat} (hlen : at_.length = n) (j : Nat) : (a :: (at_ ++ as))[j]? = (at_ ++ a :: as)[if j = 0 then n else if j ≤ n then j - 1 else j]? := by
  by_cases z : j = 0
  · subst z
    simp only [if_pos, List.getElem?_cons_zero]
    rw [List.getElem?_append_right (by omega), hlen, Nat.sub_self]; rfl
  · obtain ⟨m, rfl⟩ : ∃ m, j = m + 1 := ⟨j - 1, by omega⟩
    simp only [if_neg z, List.getElem?_cons_succ]
    by_cases y : m + 1 ≤ n
    · rw [if_pos y, Nat.add_sub_cancel, List.getElem?_append_left (by omega), List.getElem?_append_left (by omega)]
    · rw [if_neg y, List.getElem?_append_right (by omega), List.getElem?_append_right (by omega)]
      obtain ⟨q, hq⟩ : ∃ q, m = n + q := ⟨m - n, by omega⟩
      subst hq
      rw [hlen, show n + q + 1 - n = q + 1 by omega, List.getElem?_cons_succ, show n + q - n = q by omega]
/-- a pushed value stands under others: it comes to the top -/
theorem ER.rot {σt : List (Option V)} {et : Env} (h : ER C F H (σt ++ o :: σ) (et ++ s :: env)) (hl : σt.length = et.length) : ER C F H (o :: (σt ++ σ)) (s :: (et ++ env)) := by
  have hls : σ.length = env.length := by have := h.len; simp [hl] at this; omega
  refine h.perm (by simp [hl, hls]) (fun j => if j = 0 then et.length else if j ≤ et.length then j - 1 else j) fun j s' ej => .inr ?_
  refine ⟨?_, ?_, fun l s'' _ _ q => ?_⟩
  · rw [← rot_key s et env rfl]; exact ej
  · rw [rot_key o σt σ hl]
  · by_cases z : j = 0
    · subst z
      by_cases y : l = 0
      · exact y
      · simp only [if_neg y, if_pos] at q
        by_cases a : l ≤ et.length
        · rw [if_pos a] at q; omega
        · rw [if_neg a] at q; omega
    · by_cases y : l = 0
      · subst y
        simp only [if_neg z, if_pos] at q
        by_cases a : j ≤ et.length
        · rw [if_pos a] at q; omega
        · rw [if_neg a] at q; omega
      · simp only [if_neg z, if_neg y] at q
        by_cases a : j ≤ et.length
        · rw [if_pos a] at q
          by_cases b : l ≤ et.length
          · rw [if_pos b] at q; omega
          · rw [if_neg b] at q; omega
        · rw [if_neg a] at q
          by_cases b : l ≤ et.length
          · rw [if_pos b] at q; omega
          · rw [if_neg b] at q; omega
theorem unrot_key {α : Type _} (a : α) (at_ as : List α) {n : Nat} (hlen : at_.length = n) (j : Nat) : (at_ ++ a :: as)[j]? = (a :: (at_ ++ as))[if j < n then j + 1 else if j = n then 0 else j]? := by
  by_cases z : j < n
  · rw [if_pos z, List.getElem?_cons_succ, List.getElem?_append_left (by omega), List.getElem?_append_left (by omega)]
  · rw [if_neg z]
    by_cases y : j = n
    · rw [if_pos y, List.getElem?_append_right (by omega), hlen, y, Nat.sub_self]; rfl
    · rw [if_neg y, List.getElem?_append_right (by omega)]
      obtain ⟨q, rfl⟩ : ∃ q, j = n + 1 + q := ⟨j - n - 1, by omega⟩
      rw [hlen, show n + 1 + q - n = q + 1 by omega, List.getElem?_cons_succ, show n + 1 + q = (n + q) + 1 by omega, List.getElem?_cons_succ, List.getElem?_append_right (by omega), hlen, Nat.add_sub_cancel_left]
/-- the top goes below others -/
theorem ER.unrot {σt : List (Option V)} {et : Env} (h : ER C F H (o :: (σt ++ σ)) (s :: (et ++ env))) (hl : σt.length = et.length) : ER C F H (σt ++ o :: σ) (et ++ s :: env) := by
  have hls : σ.length = env.length := by have := h.len; simp [hl] at this; omega
  refine h.perm (by simp [hl, hls]) (fun j => if j < et.length then j + 1 else if j = et.length then 0 else j) fun j s' ej => .inr ?_
  refine ⟨?_, ?_, fun l s'' _ _ q => ?_⟩
  · rw [← unrot_key s et env rfl]; exact ej
  · rw [unrot_key o σt σ hl]
  · by_cases z : j < et.length
    · simp only [if_pos z] at q
      by_cases y : l < et.length
      · simp only [if_pos y] at q; omega
      · simp only [if_neg y] at q
        by_cases x : l = et.length
        · simp only [if_pos x] at q; omega
        · simp only [if_neg x] at q; omega
    · simp only [if_neg z] at q
      by_cases y : l < et.length
      · simp only [if_pos y] at q
        by_cases x : j = et.length
        · simp only [if_pos x] at q; omega
        · simp only [if_neg x] at q; omega
      · simp only [if_neg y] at q
        by_cases x : j = et.length
        · simp only [if_pos x] at q
          by_cases w : l = et.length
          · omega
          · simp only [if_neg w] at q; omega
        · simp only [if_neg x] at q
          by_cases w : l = et.length
          · simp only [if_pos w] at q; omega
          · simp only [if_neg w] at q; omega
end

/-! ### the judgements -/
section
variable (X : Cx) {Ω : Type}
/-- the weakest readings -/
def tE (e : Expr) : TE := fun σ H Q => ∀ pins s, Inv X pins σ H s → wpAny (model X.prog X.w) X.A (eval e X.env) (EP X pins σ Q) X.xe s
def tT (e : Expr) : TT := fun σ H Q => ∀ pins s, Inv X pins σ H s → wpAny (model X.prog X.w) X.A (isTrue e X.env (eval e X.env)) (TP X pins σ Q) X.xe s
def tAs (es : List Expr) : TA := fun σ H Q => ∀ pos pins s, Inv X pins σ H s → wpAny (model X.prog X.w) X.A (spliced (backTo pos (starEach es X.env))) (AP X pins σ Q) X.xe s
def tSs (st : List Stmt) : TS := fun D σ H => ∀ pins s, Inv X pins σ H s → wpAny (model X.prog X.w) X.A (execs st X.env) (SP X pins D) X.xe s
def tS1 (st : Stmt) : TS := fun D σ H => ∀ pins s, Inv X pins σ H s → wpAny (model X.prog X.w) X.A (exec st X.env) (SP X pins D) X.xe s
theorem peC {e : Expr} : PE X e (tE X e) := ⟨fun pins s σ H Q I h => h pins s I⟩
theorem ptC {e : Expr} : PT X e (tT X e) := ⟨fun pins s σ H Q I h => h pins s I⟩
theorem paC {es : List Expr} : PA X es (tAs X es) := ⟨fun pos pins s σ H Q I h => h pos pins s I⟩
theorem pssC {st : List Stmt} : PSs X st (tSs X st) := ⟨fun pins s σ H D I h => h pins s I⟩
theorem psC {st : Stmt} : PS X st (tS1 X st) := ⟨fun pins s σ H D I h => h pins s I⟩
theorem tE.of {e : Expr} {t : TE} {σ : L2.St} {H : Hp} {Q : VK} (h : PE X e t) (q : t σ H Q) : tE X e σ H Q := fun pins s I => h.run pins s σ H Q I q
theorem tT.of {e : Expr} {t : TT} {σ : L2.St} {H : Hp} {Q : Bool → Hp → Prop} (h : PT X e t) (q : t σ H Q) : tT X e σ H Q := fun pins s I => h.run pins s σ H Q I q
theorem tAs.of {es : List Expr} {t : TA} {σ : L2.St} {H : Hp} {Q : List V → Hp → Prop} (h : PA X es t) (q : t σ H Q) : tAs X es σ H Q := fun pos pins s I => h.run pos pins s σ H Q I q
theorem tSs.of {st : List Stmt} {t : TS} {σ : L2.St} {H : Hp} {D : Ends} (h : PSs X st t) (q : t D σ H) : tSs X st D σ H := fun pins s I => h.run pins s σ H D I q
theorem tS1.of {st : Stmt} {t : TS} {σ : L2.St} {H : Hp} {D : Ends} (h : PS X st t) (q : t D σ H) : tS1 X st D σ H := fun pins s I => h.run pins s σ H D I q

def LX (env : Env) (e : Expr) {τ : Type} (S : Stor τ) {P : Type} (env' : P → Env) (f : (τ → P → Option Ω) → Option Ω) : Prop :=
  ∀ (C : Ck) (F H : Hp) (σs : List (Option V)) (es : Env) (σ : List (Option V)) (k : τ → P → Option Ω) (ω : Ω) (Q : VK), C.K = X.K → σs.length = es.length → ER C F H (σs ++ σ) (es ++ env) → f k = some ω →
    (∀ a p v F' H', k a p = some ω → ER C F' H' (some v :: (σs ++ σ)) (.st none τ S a :: (es ++ env' p)) → Q v H') → tE X e σ H Q
def LT (env : Env) (e : Expr) {P : Type} (env' : P → Env) (f : (Bool → P → Option Ω) → Option Ω) : Prop :=
  ∀ (C : Ck) (F H : Hp) (σs : List (Option V)) (es : Env) (σ : List (Option V)) (k : Bool → P → Option Ω) (ω : Ω) (Q : Bool → Hp → Prop), C.K = X.K → σs.length = es.length → ER C F H (σs ++ σ) (es ++ env) → f k = some ω →
    (∀ a p F' H', k a p = some ω → ER C F' H' (σs ++ σ) (es ++ env' p) → Q a H') → tT X e σ H Q
/-- an operand: what it tells may be read as long as the slots stand -/
def LO (G : Env → Prop) (env : Env) (e : Expr) {τ : Type} (S : Stor τ) {P : Type} (env' : P → Env) (f : (τ → P → Option Ω) → Option Ω) : Prop :=
  ∀ (C : Ck) (F H : Hp) (σs : List (Option V)) (es : Env) (σ : List (Option V)) (k : τ → P → Option Ω) (ω : Ω) (Q : VK), C.K = X.K → σs.length = es.length → ER C F H (σs ++ σ) (es ++ env) → f k = some ω →
    (∀ a p v F' H' (σx : List (Option V)) (ex : Env), σx.length = ex.length → k a p = some ω → ER C F' H' (σx ++ (σs ++ σ)) (ex ++ (es ++ env' p)) →
      (∀ (F'' H'' : Hp) (σ2 : List (Option V)) (e2 env2 : Env), G env2 → σ2.length = e2.length → ER C F'' H'' (σ2 ++ (σx ++ (σs ++ σ))) (e2 ++ (ex ++ (es ++ env2))) → ∃ fp, S.rel C.K F'' H'' fp v a) → Q v H') → tE X e σ H Q
/-- arguments, from the left -/
def LA (env : Env) (xs : List Expr) {A : Type} (sl : A → Env) {P : Type} (env' : P → Env) (f : (A → P → Option Ω) → Option Ω) : Prop :=
  ∀ (C : Ck) (F H : Hp) (σs : List (Option V)) (es : Env) (σ : List (Option V)) (k : A → P → Option Ω) (ω : Ω) (Q : List V → Hp → Prop), C.K = X.K → σs.length = es.length → ER C F H (σs ++ σ) (es ++ env) → f k = some ω →
    (∀ a p (vs : List V) F' H', k a p = some ω → (vs.map some).length = (sl a).length → ER C F' H' (vs.map some ++ (σs ++ σ)) (sl a ++ (es ++ env' p)) → Q vs H') → tAs X xs σ H Q
/-- a comparison: value and test -/
def LC (env : Env) (op : CmpOp) (a b : Expr) {P : Type} (env' : P → Env) (f : (Bool → P → Option Ω) → Option Ω) : Prop :=
  ∃ r : R2, OpR X (compareOp op) r ∧ ∀ (C : Ck) (F H : Hp) (σs : List (Option V)) (es : Env) (σ : List (Option V)) (k : Bool → P → Option Ω) (ω : Ω) (Q : VK), C.K = X.K → σs.length = es.length → ER C F H (σs ++ σ) (es ++ env) → f k = some ω →
    (∀ c p F' H', k c p = some ω → ER C F' H' (σs ++ σ) (es ++ env' p) → Q (.bl c) H') → tOp r (tE X a) (tE X b) σ H Q
end

/-- a label: where a break or a continue goes -/
structure Lp (Ω : Type) where
  J : Type
  env : J → Env
  k : J → Option Ω
def noLp (Ω : Type) : Lp Ω := ⟨Empty, fun e => e.elim, fun e => e.elim⟩
section
variable (X : Cx)
def LB {R I Ω : Type} (S : Stor R) (envR : I → Env) (kr : R → I → Option Ω) (bk ct : Lp Ω) (env : Env) (sts : List Stmt) {J : Type} (envJ : J → Env) (f : (J → Option Ω) → Option Ω) : Prop :=
  ∀ (C : Ck) (F H : Hp) (σs : List (Option V)) (es : Env) (σ : List (Option V)) (kn : J → Option Ω) (ω : Ω) (D : Ends), C.K = X.K → σs.length = es.length → ER C F H (σs ++ σ) (es ++ env) → f kn = some ω →
    (∀ j F' H' σ', kn j = some ω → ER C F' H' (σs ++ σ') (es ++ envJ j) → D.nx σ' H') →
    (∀ j F' H' σ', bk.k j = some ω → ER C F' H' (σs ++ σ') (es ++ bk.env j) → D.bk σ' H') →
    (∀ j F' H' σ', ct.k j = some ω → ER C F' H' (σs ++ σ') (es ++ ct.env j) → D.ct σ' H') →
    (∀ a i v F' H' σ', kr a i = some ω → ER C F' H' (some v :: (σs ++ σ')) (.st none R S a :: (es ++ envR i)) → D.rt v H') → tSs X sts D σ H
end

/-! ### names, constants -/
section
variable {X : Cx} {Ω : Type} {env env1 : Env} {τ : Type} {S : Stor τ} {E : Enc τ} {x : τ} {w : Option V} {i : Nat} {nm : Str} {pos : Pos} {e a b : Expr} {P P1 P2 : Type} {f : (τ → P → Option Ω) → Option Ω} {env' : P → Env}
theorem lx_var (i : Nat) (cp : Cp S) (e : env[i]? = some (.st w τ S x)) (hN : X.N[i]? = some nm := by rfl) (hv : Vis X.env.scope nm := by first | exact Or.inl rfl | exact Or.inr (Or.inl rfl) | exact Or.inr (Or.inr rfl)) (hd : (nm == ("__debug__" : Str)) = false := by decide) (hcd : (nm == ("__classdict__" : Str)) = false := by decide) :
    LX X env (.Name nm pos) S (fun _ : Unit => env) (fun (k : τ → Unit → Option Ω) => k x ()) := by
  refine fun C F H σs es σ k ω Q hK hl h hk q => tE.of X (pe_var hN hv hd hcd) ?_
  obtain ⟨v, fp, e1, r⟩ := h.lookF hl e
  have z := cp.nil r
  subst z
  exact ⟨v, e1, q x () v F H hk (h.push0 ⟨v, rfl, r, fun _ m => nomatch m⟩)⟩
/-- an own object is read and shared from here on -/
theorem lx_frz (i : Nat) (fz : Frz S E) (e : env[i]? = some (.st none τ S x)) (hN : X.N[i]? = some nm := by rfl) (hv : Vis X.env.scope nm := by first | exact Or.inl rfl | exact Or.inr (Or.inl rfl) | exact Or.inr (Or.inr rfl)) (hd : (nm == ("__debug__" : Str)) = false := by decide) (hcd : (nm == ("__classdict__" : Str)) = false := by decide) :
    LX X env (.Name nm pos) (it E) (fun _ : Unit => env.set i (.st none τ (it E) x)) (fun (k : τ → Unit → Option Ω) => k x ()) := by
  refine fun C F H σs es σ k ω Q hK hl h hk q => tE.of X (pe_var hN hv hd hcd) ?_
  obtain ⟨F', sF, h'⟩ := h.freeze (i := es.length + i) fz (by rw [at_app _ rfl]; exact e)
  have h2 : ER C F' H (σs ++ σ) (es ++ env.set i (.st none τ (it E) x)) := by
    rw [List.set_append_right _ _ (Nat.le_add_right _ _), Nat.add_sub_cancel_left] at h'
    exact h'
  obtain ⟨v, e1, r⟩ := h2.repF (i := i) (E := E) (x := x) (w := none) hl (by rw [List.getElem?_set_self (List.getElem?_eq_some_iff.mp e).1])
  exact ⟨v, e1, q x () v F' H hk (h2.pushSh r)⟩
/-- an own object is handed on -/
theorem lx_move (i : Nat) (e : env[i]? = some (.st none τ S x)) (hN : X.N[i]? = some nm := by rfl) (hv : Vis X.env.scope nm := by first | exact Or.inl rfl | exact Or.inr (Or.inl rfl) | exact Or.inr (Or.inr rfl)) (hd : (nm == ("__debug__" : Str)) = false := by decide) (hcd : (nm == ("__classdict__" : Str)) = false := by decide) :
    LX X env (.Name nm pos) S (fun _ : Unit => env.set i .un) (fun (k : τ → Unit → Option Ω) => k x ()) := by
  refine fun C F H σs es σ k ω Q hK hl h hk q => tE.of X (pe_var hN hv hd hcd) ?_
  obtain ⟨v, fp, e1, r⟩ := h.lookF hl e
  refine ⟨v, e1, q x () v F H hk ?_⟩
  have hi := (List.getElem?_eq_some_iff.mp e).1
  refine h.perm (by have := h.len; simp at this ⊢; omega) (fun j => if j = 0 then es.length + i else j - 1) fun j s' ej => ?_
  cases j with
  | zero =>
    simp at ej; subst ej
    refine .inr ⟨?_, ?_, fun l s'' el hne hq => ?_⟩
    · simp only [if_pos]; rw [at_app _ rfl]; exact e
    · simp only [if_pos]; rw [at_app _ hl, e1]; rfl
    · by_cases z : l = 0
      · exact z
      · exfalso
        simp only [if_neg z, if_pos] at hq
        obtain ⟨m, rfl⟩ : ∃ m, l = m + 1 := ⟨l - 1, by omega⟩
        have hm : m = es.length + i := by omega
        subst hm
        rw [List.getElem?_cons_succ, at_app _ rfl, List.getElem?_set_self hi] at el
        exact hne (Option.some.inj el).symm
  | succ j =>
    rw [List.getElem?_cons_succ] at ej
    by_cases z : j = es.length + i
    · subst z
      rw [at_app _ rfl, List.getElem?_set_self hi] at ej
      exact .inl (Option.some.inj ej).symm
    · refine .inr ⟨?_, by simp, fun l s'' el hne hq => ?_⟩
      · simp only [Nat.add_one_sub_one, if_neg (Nat.succ_ne_zero j)]
        by_cases y : j < es.length
        · rw [List.getElem?_append_left y] at ej ⊢; exact ej
        · obtain ⟨m, rfl⟩ : ∃ m, j = es.length + m := ⟨j - es.length, by omega⟩
          rw [at_app _ rfl, List.getElem?_set_ne (by omega)] at ej
          rw [at_app _ rfl]; exact ej
      · by_cases y : l = 0
        · subst y; simp only [if_pos, if_neg (Nat.succ_ne_zero j)] at hq; omega
        · simp only [if_neg y, if_neg (Nat.succ_ne_zero j)] at hq; omega
theorem lx_c {v : V} (hp : PE X e (tC v)) (r : ∀ F, Rep X.K F v (E.enc x)) : LX X env e (it E) (fun _ : Unit => env) (fun (k : τ → Unit → Option Ω) => k x ()) :=
  fun C F H σs es σ k ω Q hK hl h hk q => tE.of X hp (q x () v F H hk (h.pushSh (by rw [hK]; exact r F)))
theorem lx_int {n : Int} {j : Nat} : LX X env (.Constant (.int n) j pos) (it eI) (fun _ : Unit => env) (fun (k : Int → Unit → Option Ω) => k n ()) := lx_c pe_int fun _ => .int n
theorem lx_bl {c : Bool} {j : Nat} : LX X env (.Constant (.bool c) j pos) (it eB) (fun _ : Unit => env) (fun (k : Bool → Unit → Option Ω) => k c ()) := lx_c pe_bl fun _ => .bl c
theorem lx_str {c : Str} {j : Nat} : LX X env (.Constant (.str c) j pos) (it eS) (fun _ : Unit => env) (fun (k : Str → Unit → Option Ω) => k c ()) := lx_c pe_str fun _ => .str c
theorem lx_non {j : Nat} : LX X env (.Constant .none j pos) (it eN) (fun _ : Unit => env) (fun (k : Unit → Unit → Option Ω) => k () ()) := lx_c pe_non fun _ => .non
/-- what is told may be taken for another kind of the same data -/
theorem lx_as {τ' : Type} {E' : Enc τ'} (h : LX X env e (it E) env' f) (g : τ → τ') (hg : ∀ a, E'.enc (g a) = E.enc a) : LX X env e (it E') env' (fun (k : τ' → P → Option Ω) => f fun a p => k (g a) p) := by
  refine fun C F H σs es σ k ω Q hK hl hr hk q => h C F H σs es σ _ ω Q hK hl hr hk fun a p v F' H' hka h' => q (g a) p v F' H' hka ?_
  obtain ⟨v', fp, e1, r⟩ := h'.look (i := 0) rfl
  simp at e1; subst e1
  exact h'.pop.pushSh (by rw [hg]; exact r.2)
/-- .. a cast: where the data are of another kind the walk is not followed -/
theorem lx_cast {τ' : Type} {E' : Enc τ'} (h : LX X env e (it E) env' f) (g : τ → Option τ') (hg : ∀ a b, g a = some b → E'.enc b = E.enc a) : LX X env e (it E') env' (fun (k : τ' → P → Option Ω) => f fun a p => (g a).bind fun b => k b p) := by
  refine fun C F H σs es σ k ω Q hK hl hr hk q => h C F H σs es σ _ ω Q hK hl hr hk fun a p v F' H' hka h' => ?_
  cases z : g a with
  | none => rw [z] at hka; cases hka
  | some b =>
    rw [z] at hka
    obtain ⟨v', fp, e1, r⟩ := h'.look (i := 0) rfl
    simp at e1; subst e1
    exact q b p v F' H' hka (h'.pop.pushSh (by rw [hg a b z]; exact r.2))
/-- own objects that were made are shared -/
theorem lx_sh (fz : Frz S E) (h : LX X env e S env' f) : LX X env e (it E) env' f := by
  refine fun C F H σs es σ k ω Q hK hl hr hk q => h C F H σs es σ k ω Q hK hl hr hk fun a p v F' H' hka h' => ?_
  obtain ⟨F2, sF, h2⟩ := h'.freeze (i := 0) fz rfl
  exact q a p v F2 H' hka h2
/-- the operands -/
theorem lo_of (h : LX X env e S env' f) : LO X (fun _ => True) env e S env' f := by
  refine fun C F H σs es σ k ω Q hK hl hr hk q => h C F H σs es σ k ω Q hK hl hr hk fun a p v F' H' hka h' => ?_
  refine q a p v F' H' [some v] [.st none τ S a] rfl hka h' fun F'' H'' σ2 e2 env2 _ hl2 h2 => ?_
  obtain ⟨v', fp, e1, r⟩ := h2.look (i := e2.length + 0) (by rw [at_app _ rfl]; rfl)
  rw [at_app _ hl2] at e1
  simp at e1; subst e1
  exact ⟨fp, r⟩
theorem lo_var (i : Nat) (e : env[i]? = some (.st w τ S x)) (hN : X.N[i]? = some nm := by rfl) (hv : Vis X.env.scope nm := by first | exact Or.inl rfl | exact Or.inr (Or.inl rfl) | exact Or.inr (Or.inr rfl)) (hd : (nm == ("__debug__" : Str)) = false := by decide) (hcd : (nm == ("__classdict__" : Str)) = false := by decide) :
    LO X (fun en => en[i]? = some (.st w τ S x)) env (.Name nm pos) S (fun _ : Unit => env) (fun (k : τ → Unit → Option Ω) => k x ()) := by
  refine fun C F H σs es σ k ω Q hK hl h hk q => tE.of X (pe_var hN hv hd hcd) ?_
  obtain ⟨v, fp, e1, r⟩ := h.lookF hl e
  refine ⟨v, e1, q x () v F H [] [] rfl hk h fun F'' H'' σ2 e2 env2 hg hl2 h2 => ?_⟩
  have h3 : ER C F'' H'' ((σ2 ++ σs) ++ σ) ((e2 ++ es) ++ env2) := by simpa [List.append_assoc] using h2
  obtain ⟨v', fp', e1', r'⟩ := h3.lookF (i := i) (τ := τ) (S := S) (x := x) (w := w) (by simp [hl, hl2]) hg
  rw [e1] at e1'; cases e1'
  exact ⟨fp', r'⟩
theorem lo_lk (i : Nat) (e : env[i]? = some (.lk τ S x)) (hN : X.N[i]? = some nm := by rfl) (hv : Vis X.env.scope nm := by first | exact Or.inl rfl | exact Or.inr (Or.inl rfl) | exact Or.inr (Or.inr rfl)) (hd : (nm == ("__debug__" : Str)) = false := by decide) (hcd : (nm == ("__classdict__" : Str)) = false := by decide) :
    LO X (fun en => en[i]? = some (.lk τ S x)) env (.Name nm pos) S (fun _ : Unit => env) (fun (k : τ → Unit → Option Ω) => k x ()) := by
  refine fun C F H σs es σ k ω Q hK hl h hk q => tE.of X (pe_var hN hv hd hcd) ?_
  obtain ⟨v, fp, e1, r⟩ := h.lookKF hl e
  refine ⟨v, e1, q x () v F H [] [] rfl hk h fun F'' H'' σ2 e2 env2 hg hl2 h2 => ?_⟩
  have h3 : ER C F'' H'' ((σ2 ++ σs) ++ σ) ((e2 ++ es) ++ env2) := by simpa [List.append_assoc] using h2
  obtain ⟨v', fp', e1', r'⟩ := h3.lookKF (i := i) (τ := τ) (S := S) (x := x) (by simp [hl, hl2]) hg
  rw [e1] at e1'; cases e1'
  exact ⟨fp', r'⟩
end
end Z

set_option Elab.async false
set_option linter.all false
set_option maxRecDepth 100000
namespace Z
open PySem PySem.Spec PyProof.Rows L2

/-- a check on the way: where it fails the walk is not followed -/
def ck {Ω : Type} (b : Bool) (k : Option Ω) : Option Ω := if b then k else none
theorem ck_some {Ω : Type} {b : Bool} {k : Option Ω} {ω : Ω} (h : ck b k = some ω) : b = true ∧ k = some ω := by
  unfold ck at h
  cases b with
  | true => exact ⟨rfl, by simpa using h⟩
  | false => simp at h
@[simp] theorem ck_true {Ω : Type} (k : Option Ω) : ck true k = k := rfl
theorem bind_some {α Ω : Type} {o : Option α} {k : α → Option Ω} {ω : Ω} (h : o.bind k = some ω) : ∃ a, o = some a ∧ k a = some ω := by
  cases o with
  | none => cases h
  | some a => exact ⟨a, rfl, h⟩

section
variable {X : Cx} {Ω : Type} {env : Env} {nm : Str} {pos : Pos} {a b : Expr} {P P1 P2 : Type} {τ τ1 τ2 α β : Type} {S : Stor τ} {S1 : Stor τ1} {S2 : Stor τ2} {E : Enc τ} {E1 : Enc τ1} {E2 : Enc τ2}
  {G : Env → Prop} {G1 : Env → Prop} {G2 : P1 → Env → Prop} {e1 : P1 → Env} {e2 : P1 → P2 → Env} {fa : (τ1 → P1 → Option Ω) → Option Ω} {fb : P1 → (τ2 → P2 → Option Ω) → Option Ω}

theorem lo_run (ha : LO X G env a S1 e1 fa) (g1 : ∀ p1, G (e1 p1)) {C : Ck} {F H : Hp} {σs : List (Option V)} {es : Env} {σ : List (Option V)} {k : τ1 → P1 → Option Ω} {ω : Ω} {R : V → Hp → Prop} (hK : C.K = X.K) (hl : σs.length = es.length)
    (h : ER C F H (σs ++ σ) (es ++ env)) (hk : fa k = some ω)
    (q : ∀ x p1 v F' H' fp, k x p1 = some ω → ER C F' H' (σs ++ σ) (es ++ e1 p1) → S1.rel C.K F' H' fp v x → R v H') : tE X a σ H R :=
  ha C F H σs es σ k ω R hK hl h hk fun x p1 v F' H' σx ex hlx hk' h' r' => by
    obtain ⟨fp, rr⟩ := r' F' H' [] [] (e1 p1) (g1 p1) rfl h'
    exact q x p1 v F' H' fp hk' (h'.popN hlx) rr
/-- two operands in a row -/
theorem op2_run (ha : LO X G1 env a S1 e1 fa) (hb : ∀ p1, LO X (G2 p1) (e1 p1) b S2 (e2 p1) (fb p1)) (g1 : ∀ p1 p2, G1 (e2 p1 p2)) (g2 : ∀ p1 p2, G2 p1 (e2 p1 p2))
    {C : Ck} {F H : Hp} {σs : List (Option V)} {es : Env} {σ : List (Option V)} {k : τ1 → P1 → τ2 → P2 → Option Ω} {ω : Ω} {R : V → V → Hp → Prop} (hK : C.K = X.K) (hl : σs.length = es.length)
    (h : ER C F H (σs ++ σ) (es ++ env)) (hk : (fa fun x p1 => fb p1 fun y p2 => k x p1 y p2) = some ω)
    (q : ∀ x p1 y p2 v u F' H' fp fq, k x p1 y p2 = some ω → ER C F' H' (σs ++ σ) (es ++ e2 p1 p2) → S1.rel C.K F' H' fp v x → S2.rel C.K F' H' fq u y → R v u H') :
    tE X a σ H fun v H1 => tE X b σ H1 fun u H2 => R v u H2 :=
  ha C F H σs es σ _ ω _ hK hl h hk fun x p1 v F' H' σx ex hlx hk' h' r' =>
    hb p1 C F' H' (σx ++ σs) (ex ++ es) σ _ ω _ hK (by simp [hl, hlx]) (by simpa [List.append_assoc] using h') hk' fun y p2 u F2 H2 σy ey hly hk2 h2 r2 => by
      have h3 : ER C F2 H2 (σy ++ (σx ++ (σs ++ σ))) (ey ++ (ex ++ (es ++ e2 p1 p2))) := by simpa [List.append_assoc] using h2
      obtain ⟨fp, rr⟩ := r' F2 H2 σy ey (e2 p1 p2) (g1 p1 p2) hly h3
      obtain ⟨fq, rq⟩ := r2 F2 H2 [] [] (e2 p1 p2) (g2 p1 p2) rfl h2
      exact q x p1 y p2 v u F2 H2 fp fq hk2 ((h3.popN hly).popN hlx) rr rq

/-! ### numbers -/
/-- an operator of two ints, by its check and its value -/
theorem lx_opI {op : Operator} {r : R2} {c : Int → Int → Bool} {g : Int → Int → Int} (ho : OpR X (binaryOp op) r) (hr : ∀ i j H (Q : VK), c i j = true → Q (.int (g i j)) H → r (.int i) (.int j) H Q)
    {fa : (Int → P1 → Option Ω) → Option Ω} {fb : P1 → (Int → P2 → Option Ω) → Option Ω} (ha : LX X env a (it eI) e1 fa) (hb : ∀ p1, LX X (e1 p1) b (it eI) (e2 p1) (fb p1)) :
    LX X env (.BinOp a op b pos) (it eI) (fun p : P1 × P2 => e2 p.1 p.2) (fun k => fa fun x p1 => fb p1 fun y p2 => ck (c x y) (k (g x y) (p1, p2))) :=
  fun C F H σs es σ k ω Q hK hl h hk q => tE.of X (pe_op ho (peC X) (peC X)) (op2_run (lo_of ha) (fun p1 => lo_of (hb p1)) (fun _ _ => trivial) (fun _ _ => trivial) hK hl h hk
    fun x p1 y p2 v u F' H' fp fq hk' h' r1 r2 => by
      obtain ⟨hc, hk'⟩ := ck_some hk'
      obtain ⟨_, r1⟩ := r1
      obtain ⟨_, r2⟩ := r2
      cases r1; cases r2
      exact hr x y H' Q hc (q _ (p1, p2) _ F' H' hk' (h'.pushSh (.int _))))
/-- .. that needs no check -/
theorem lx_opT {op : Operator} {r : R2} {g : Int → Int → Int} (ho : OpR X (binaryOp op) r) (hr : ∀ i j H (Q : VK), Q (.int (g i j)) H → r (.int i) (.int j) H Q)
    {fa : (Int → P1 → Option Ω) → Option Ω} {fb : P1 → (Int → P2 → Option Ω) → Option Ω} (ha : LX X env a (it eI) e1 fa) (hb : ∀ p1, LX X (e1 p1) b (it eI) (e2 p1) (fb p1)) :
    LX X env (.BinOp a op b pos) (it eI) (fun p : P1 × P2 => e2 p.1 p.2) (fun k => fa fun x p1 => fb p1 fun y p2 => k (g x y) (p1, p2)) :=
  fun C F H σs es σ k ω Q hK hl h hk q => tE.of X (pe_op ho (peC X) (peC X)) (op2_run (lo_of ha) (fun p1 => lo_of (hb p1)) (fun _ _ => trivial) (fun _ _ => trivial) hK hl h hk
    fun x p1 y p2 v u F' H' fp fq hk' h' r1 r2 => by
      obtain ⟨_, r1⟩ := r1
      obtain ⟨_, r2⟩ := r2
      cases r1; cases r2
      exact hr x y H' Q (q _ (p1, p2) _ F' H' hk' (h'.pushSh (.int _))))
section
variable {fa : (Int → P1 → Option Ω) → Option Ω} {fb : P1 → (Int → P2 → Option Ω) → Option Ω}
theorem lx_add (ha : LX X env a (it eI) e1 fa) (hb : ∀ p1, LX X (e1 p1) b (it eI) (e2 p1) (fb p1)) :
    LX X env (.BinOp a .Add b pos) (it eI) (fun p : P1 × P2 => e2 p.1 p.2) (fun k => fa fun x p1 => fb p1 fun y p2 => k (x + y) (p1, p2)) := lx_opT op_add (fun i j _ _ q => ⟨i, j, rfl, rfl, q⟩) ha hb
theorem lx_sub (ha : LX X env a (it eI) e1 fa) (hb : ∀ p1, LX X (e1 p1) b (it eI) (e2 p1) (fb p1)) :
    LX X env (.BinOp a .Sub b pos) (it eI) (fun p : P1 × P2 => e2 p.1 p.2) (fun k => fa fun x p1 => fb p1 fun y p2 => k (x - y) (p1, p2)) := lx_opT op_sub (fun i j _ _ q => ⟨i, j, rfl, rfl, q⟩) ha hb
/-- a product: one factor is below 2 ^ 64 -/
def mulOk (i j : Int) : Bool := decide ((-(2 ^ 64) < i ∧ i < 2 ^ 64) ∨ (-(2 ^ 64) < j ∧ j < 2 ^ 64))
def divOk (j : Int) : Bool := decide (j ≠ 0 ∧ j.natAbs < 1073741824)
def modOk (j : Int) : Bool := decide (j ≠ 0)
def powOk (i j : Int) : Bool := decide (0 ≤ j ∧ j ≤ 1000000 ∧ i.natAbs < 2 ^ 64)
theorem lx_mul (ha : LX X env a (it eI) e1 fa) (hb : ∀ p1, LX X (e1 p1) b (it eI) (e2 p1) (fb p1)) :
    LX X env (.BinOp a .Mult b pos) (it eI) (fun p : P1 × P2 => e2 p.1 p.2) (fun k => fa fun x p1 => fb p1 fun y p2 => ck (mulOk x y) (k (x * y) (p1, p2))) := lx_opI (c := mulOk) op_mul (fun i j _ _ c q => ⟨i, j, rfl, rfl, of_decide_eq_true (p := (-(2 ^ 64) < i ∧ i < 2 ^ 64) ∨ (-(2 ^ 64) < j ∧ j < 2 ^ 64)) c, q⟩) ha hb
theorem lx_fdiv (ha : LX X env a (it eI) e1 fa) (hb : ∀ p1, LX X (e1 p1) b (it eI) (e2 p1) (fb p1)) :
    LX X env (.BinOp a .FloorDiv b pos) (it eI) (fun p : P1 × P2 => e2 p.1 p.2) (fun k => fa fun x p1 => fb p1 fun y p2 => ck (divOk y) (k (x.fdiv y) (p1, p2))) := lx_opI (c := fun _ y => divOk y) op_fdivN (fun i j _ _ c q => ⟨i, j, rfl, rfl, of_decide_eq_true (p := j ≠ 0 ∧ j.natAbs < 1073741824) c, q⟩) ha hb
theorem lx_mod (ha : LX X env a (it eI) e1 fa) (hb : ∀ p1, LX X (e1 p1) b (it eI) (e2 p1) (fb p1)) :
    LX X env (.BinOp a .Mod b pos) (it eI) (fun p : P1 × P2 => e2 p.1 p.2) (fun k => fa fun x p1 => fb p1 fun y p2 => ck (modOk y) (k (x.fmod y) (p1, p2))) := lx_opI (c := fun _ y => modOk y) op_modN (fun i j _ _ c q => ⟨i, j, rfl, rfl, of_decide_eq_true c, q⟩) ha hb
theorem lx_pow (ha : LX X env a (it eI) e1 fa) (hb : ∀ p1, LX X (e1 p1) b (it eI) (e2 p1) (fb p1)) :
    LX X env (.BinOp a .Pow b pos) (it eI) (fun p : P1 × P2 => e2 p.1 p.2) (fun k => fa fun x p1 => fb p1 fun y p2 => ck (powOk x y) (k (x ^ y.toNat) (p1, p2))) := lx_opI (c := powOk) op_pow (fun i j _ _ c q => ⟨i, j, rfl, rfl, of_decide_eq_true (p := 0 ≤ j ∧ j ≤ 1000000 ∧ i.natAbs < 2 ^ 64) c, q⟩) ha hb
theorem lx_neg (ha : LX X env a (it eI) e1 fa) : LX X env (.UnaryOp .USub a pos) (it eI) e1 (fun k => fa fun x p1 => k (-x) p1) :=
  fun C F H σs es σ k ω Q hK hl h hk q => tE.of X (pe_un un_neg (peC X)) (lo_run (lo_of ha) (fun _ => trivial) hK hl h hk fun x p1 v F' H' fp hk' h' r => by
    obtain ⟨_, r⟩ := r
    cases r
    exact ⟨x, rfl, q _ p1 _ F' H' hk' (h'.pushSh (.int _))⟩)
end
/-! ### comparisons -/
theorem lc_cmp {op : CmpOp} {r : R2} {g : τ1 → τ2 → Bool} (ho : OpR X (compareOp op) r) (ha : LO X G1 env a S1 e1 fa) (hb : ∀ p1, LO X (G2 p1) (e1 p1) b S2 (e2 p1) (fb p1)) (g1 : ∀ p1 p2, G1 (e2 p1 p2)) (g2 : ∀ p1 p2, G2 p1 (e2 p1 p2))
    (hr : ∀ K F H fp fq v u x y (Q : VK), K = X.K → Same F H → S1.rel K F H fp v x → S2.rel K F H fq u y → Q (.bl (g x y)) H → r v u H Q) :
    LC X env op a b (fun p : P1 × P2 => e2 p.1 p.2) (fun k => fa fun x p1 => fb p1 fun y p2 => k (g x y) (p1, p2)) :=
  ⟨r, ho, fun C F H σs es σ k ω Q hK hl h hk q => op2_run ha hb g1 g2 hK hl h hk fun x p1 y p2 v u F' H' fp fq hk' h' r1 r2 =>
    hr C.K F' H' fp fq v u x y Q hK h'.sF r1 r2 (q _ (p1, p2) F' H' hk' h')⟩
/-- .. with a check -/
theorem lc_cmpC {op : CmpOp} {r : R2} {c g : τ1 → τ2 → Bool} (ho : OpR X (compareOp op) r) (ha : LO X G1 env a S1 e1 fa) (hb : ∀ p1, LO X (G2 p1) (e1 p1) b S2 (e2 p1) (fb p1)) (g1 : ∀ p1 p2, G1 (e2 p1 p2)) (g2 : ∀ p1 p2, G2 p1 (e2 p1 p2))
    (hr : ∀ K F H fp fq v u x y (Q : VK), K = X.K → Same F H → c x y = true → S1.rel K F H fp v x → S2.rel K F H fq u y → Q (.bl (g x y)) H → r v u H Q) :
    LC X env op a b (fun p : P1 × P2 => e2 p.1 p.2) (fun k => fa fun x p1 => fb p1 fun y p2 => ck (c x y) (k (g x y) (p1, p2))) :=
  ⟨r, ho, fun C F H σs es σ k ω Q hK hl h hk q => op2_run ha hb g1 g2 hK hl h hk fun x p1 y p2 v u F' H' fp fq hk' h' r1 r2 => by
    obtain ⟨hc, hk'⟩ := ck_some hk'
    exact hr C.K F' H' fp fq v u x y Q hK h'.sF hc r1 r2 (q _ (p1, p2) F' H' hk' h')⟩
theorem lx_cmp {op : CmpOp} {e' : P → Env} {f : (Bool → P → Option Ω) → Option Ω} (h : LC X env op a b e' f) (hm : behindInMarks op b = false) : LX X env (.Compare a [op] [b] pos) (it eB) e' f := by
  obtain ⟨r, ho, h⟩ := h
  exact fun C F H σs es σ k ω Q hK hl hr hk q => tE.of X (pe_cmpR ho (peC X) (peC X) hm) (h C F H σs es σ k ω Q hK hl hr hk fun c p F' H' hk' h' => q c p _ F' H' hk' (h'.pushSh (.bl _)))
theorem lt_cmp {op : CmpOp} {e' : P → Env} {f : (Bool → P → Option Ω) → Option Ω} (h : LC X env op a b e' f) (hm : behindInMarks op b = false) : LT X env (.Compare a [op] [b] pos) e' f := by
  obtain ⟨r, ho, h⟩ := h
  exact fun C F H σs es σ k ω Q hK hl hr hk q => tT.of X (pt_cmpR ho (peC X) (peC X) hm) (h C F H σs es σ k ω _ hK hl hr hk fun c p F' H' hk' h' => ⟨c, rfl, q c p F' H' hk' h'⟩)
section
variable {fa : (Int → P1 → Option Ω) → Option Ω} {fb : P1 → (Int → P2 → Option Ω) → Option Ω}
theorem lc_int {op : CmpOp} {r : R2} {g : Int → Int → Bool} (ho : OpR X (compareOp op) r) (hr : ∀ i j H (Q : VK), Q (.bl (g i j)) H → r (.int i) (.int j) H Q) (ha : LX X env a (it eI) e1 fa) (hb : ∀ p1, LX X (e1 p1) b (it eI) (e2 p1) (fb p1)) :
    LC X env op a b (fun p : P1 × P2 => e2 p.1 p.2) (fun k => fa fun x p1 => fb p1 fun y p2 => k (g x y) (p1, p2)) :=
  lc_cmp ho (lo_of ha) (fun p1 => lo_of (hb p1)) (fun _ _ => trivial) (fun _ _ => trivial) fun K F H fp fq v u x y Q _ _ r1 r2 q => by
    obtain ⟨_, r1⟩ := r1
    obtain ⟨_, r2⟩ := r2
    cases r1; cases r2
    exact hr x y H Q q
theorem lc_lt (ha : LX X env a (it eI) e1 fa) (hb : ∀ p1, LX X (e1 p1) b (it eI) (e2 p1) (fb p1)) : LC X env .Lt a b (fun p : P1 × P2 => e2 p.1 p.2) (fun k => fa fun x p1 => fb p1 fun y p2 => k (decide (x < y)) (p1, p2)) := lc_int op_lt (fun i j _ _ q => ⟨i, j, rfl, rfl, q⟩) ha hb
theorem lc_le (ha : LX X env a (it eI) e1 fa) (hb : ∀ p1, LX X (e1 p1) b (it eI) (e2 p1) (fb p1)) : LC X env .LtE a b (fun p : P1 × P2 => e2 p.1 p.2) (fun k => fa fun x p1 => fb p1 fun y p2 => k (decide (x ≤ y)) (p1, p2)) := lc_int op_le (fun i j _ _ q => ⟨i, j, rfl, rfl, q⟩) ha hb
theorem lc_gt (ha : LX X env a (it eI) e1 fa) (hb : ∀ p1, LX X (e1 p1) b (it eI) (e2 p1) (fb p1)) : LC X env .Gt a b (fun p : P1 × P2 => e2 p.1 p.2) (fun k => fa fun x p1 => fb p1 fun y p2 => k (decide (y < x)) (p1, p2)) := lc_int op_gt (fun i j _ _ q => ⟨i, j, rfl, rfl, q⟩) ha hb
theorem lc_ge (ha : LX X env a (it eI) e1 fa) (hb : ∀ p1, LX X (e1 p1) b (it eI) (e2 p1) (fb p1)) : LC X env .GtE a b (fun p : P1 × P2 => e2 p.1 p.2) (fun k => fa fun x p1 => fb p1 fun y p2 => k (decide (y ≤ x)) (p1, p2)) := lc_int op_ge (fun i j _ _ q => ⟨i, j, rfl, rfl, q⟩) ha hb
theorem lc_eqI (ha : LX X env a (it eI) e1 fa) (hb : ∀ p1, LX X (e1 p1) b (it eI) (e2 p1) (fb p1)) : LC X env .Eq a b (fun p : P1 × P2 => e2 p.1 p.2) (fun k => fa fun x p1 => fb p1 fun y p2 => k (decide (x = y)) (p1, p2)) :=
  lc_int op_eq (fun i j _ _ q => ⟨rfl, by simpa using q⟩) ha hb
theorem lc_neI (ha : LX X env a (it eI) e1 fa) (hb : ∀ p1, LX X (e1 p1) b (it eI) (e2 p1) (fb p1)) : LC X env .NotEq a b (fun p : P1 × P2 => e2 p.1 p.2) (fun k => fa fun x p1 => fb p1 fun y p2 => k (!decide (x = y)) (p1, p2)) :=
  lc_int op_ne (fun i j _ _ q => ⟨rfl, by simpa using q⟩) ha hb
end
/-! ### truth -/
theorem lt_val {e' : P → Env} {f : (Bool → P → Option Ω) → Option Ω} (h : LX X env a (it eB) e' f) (he : ∀ whole, isTrue a X.env whole = (do let v ← whole; standAt a.pos; holding [v] (truthy v)) := by intro _; rfl) : LT X env a e' f :=
  fun C F H σs es σ k ω Q hK hl hr hk q => tT.of X (pt_val (peC X) he) (lo_run (lo_of h) (fun _ => trivial) hK hl hr hk fun x p1 v F' H' fp hk' h' r => by
    obtain ⟨_, r⟩ := r
    cases r
    exact ⟨x, rfl, q x p1 F' H' hk' h'⟩)
theorem lt_not {e' : P → Env} {f : (Bool → P → Option Ω) → Option Ω} (h : LT X env a e' f) : LT X env (.UnaryOp .Not a pos) e' (fun k => f fun c p => k (!c) p) :=
  fun C F H σs es σ k ω Q hK hl hr hk q => tT.of X (pt_not (ptC X)) (h C F H σs es σ _ ω _ hK hl hr hk fun c p F' H' hk' h' => q _ p F' H' hk' h')
end
end Z

set_option Elab.async false
set_option linter.all false
set_option maxRecDepth 100000
namespace Z
open PySem PySem.Spec PyProof.Rows L2

/-! ### arguments -/
section
variable {X : Cx} {Ω : Type} {env : Env} {nm : Str} {pos : Pos} {a b e : Expr} {xs : List Expr} {P P1 P2 A : Type} {τ τ1 τ2 α β : Type} {S : Stor τ} {S1 : Stor τ1} {S2 : Stor τ2} {E : Enc τ} {E1 : Enc τ1} {E2 : Enc τ2}
  {G : Env → Prop} {G1 : Env → Prop} {G2 : P1 → Env → Prop} {e' : P → Env} {e1 : P1 → Env} {e2 : P1 → P2 → Env} {fa : (τ1 → P1 → Option Ω) → Option Ω} {fb : P1 → (τ2 → P2 → Option Ω) → Option Ω} {f : (τ → P → Option Ω) → Option Ω}

theorem la_nil : LA X env [] (fun _ : Unit => []) (fun _ : Unit => env) (fun (k : Unit → Unit → Option Ω) => k () ()) :=
  fun C F H σs es σ k ω Q hK hl h hk q => tAs.of X pa_nil (q () () [] F H hk rfl h)
theorem la_cons {sl : A → Env} {fr : P1 → (A → P2 → Option Ω) → Option Ω} (h1 : LX X env e S1 e1 fa) (h2 : ∀ p1, LA X (e1 p1) xs sl (e2 p1) (fr p1)) (hs : starEach (e :: xs) X.env = (false, eval e X.env) :: starEach xs X.env := by rfl) :
    LA X env (e :: xs) (fun p : τ1 × A => .st none τ1 S1 p.1 :: sl p.2) (fun p : P1 × P2 => e2 p.1 p.2) (fun k => fa fun x p1 => fr p1 fun r p2 => k (x, r) (p1, p2)) :=
  fun C F H σs es σ k ω Q hK hl h hk q => tAs.of X (pa_cons (peC X) (paC X) hs) (h1 C F H σs es σ _ ω _ hK hl h hk fun x p1 v F' H' hk' h' =>
    h2 p1 C F' H' (some v :: σs) (.st none τ1 S1 x :: es) σ _ ω _ hK (by simp [hl]) h' hk' fun r p2 vs F2 H2 hk2 hlv h3 => by
      refine q (x, r) (p1, p2) (v :: vs) F2 H2 hk2 (by simpa using hlv) ?_
      exact ER.rot (σt := vs.map some) (et := sl r) h3 hlv)
/-- a name by its value alone: lent to a call -/
theorem la_lend {sl : A → Env} {fr : (A → P → Option Ω) → Option Ω} (i : Nat) {w : Option V} {x : τ} (he : env[i]? = some (.st w τ S x)) (hN : X.N[i]? = some nm) (hv : Vis X.env.scope nm) (h2 : LA X env xs sl e' fr) (hd : (nm == ("__debug__" : Str)) = false := by decide) (hcd : (nm == ("__classdict__" : Str)) = false := by decide)
    (hs : starEach (Expr.Name nm pos :: xs) X.env = (false, eval (Expr.Name nm pos) X.env) :: starEach xs X.env := by rfl) :
    ∀ (C : Ck) (F H : Hp) (σs : List (Option V)) (es : Env) (σ : List (Option V)) (k : A → P → Option Ω) (ω : Ω) (Q : List V → Hp → Prop), C.K = X.K → σs.length = es.length → ER C F H (σs ++ σ) (es ++ env) → fr k = some ω →
    (∀ a p (v : V) (vs : List V) F' H', k a p = some ω → σ[i]? = some (some v) → (vs.map some).length = (sl a).length → ER C F' H' (vs.map some ++ (σs ++ σ)) (sl a ++ (es ++ e' p)) → Q (v :: vs) H') → tAs X (Expr.Name nm pos :: xs) σ H Q :=
  fun C F H σs es σ k ω Q hK hl h hk q => tAs.of X (pa_cons (peC X) (paC X) hs) (tE.of X (pe_var hN hv hd hcd) (by
    obtain ⟨v, fp, e1, r⟩ := h.lookF hl he
    exact ⟨v, e1, h2 C F H σs es σ k ω _ hK hl h hk fun a p vs F' H' hk' hlv h' => q a p v vs F' H' hk' e1 hlv h'⟩))
/-- shared slots and the data in them -/
inductive ShL : Env → List PyData → Prop
  | nil : ShL [] []
  | cons {τ : Type} {E : Enc τ} {x : τ} {en : Env} {ds : List PyData} : ShL en ds → ShL (.st none τ (it E) x :: en) (E.enc x :: ds)
theorem ShL.rep {C : Ck} {F H : Hp} : ∀ {sl : Env} {ds : List PyData}, ShL sl ds → ∀ {vs : List V} {σ : List (Option V)} {env : Env}, (vs.map some).length = sl.length → ER C F H (vs.map some ++ σ) (sl ++ env) → RepAll C.K F vs ds
  | _, _, .nil, vs, σ, env, hl, h => by
    cases vs with
    | nil => exact .nil
    | cons v vs => simp at hl
  | _, _, .cons r, vs, σ, env, hl, h => by
    cases vs with
    | nil => simp at hl
    | cons v vs =>
      obtain ⟨v', fp, e1, q⟩ := h.look (i := 0) rfl
      simp at e1; subst e1
      exact .cons q.2 (r.rep (by simpa using hl) h.pop)
theorem RepAll.zero {K : Fg} {F : Hp} {τ : Type} {E : Enc τ} {H : Hp} : ∀ {vs : List V} {xs : List τ}, RepAll K F vs (xs.map E.enc) → RelAll ((it E).rel K F H) [] vs xs
  | [], [], _ => .nil
  | [], _ :: _, h => by cases h
  | _ :: _, [], h => by cases h
  | v :: vs, x :: xs, h => by
    cases h with
    | cons h1 h2 => exact RelAll.cons (fp := []) (fps := []) ⟨rfl, h1⟩ (RepAll.zero h2)
theorem RelAll.zero {K : Fg} {F : Hp} {τ : Type} {E : Enc τ} {H : Hp} : ∀ {fp : List Addr} {vs : List V} {xs : List τ}, RelAll ((it E).rel K F H) fp vs xs → fp = [] ∧ RepAll K F vs (xs.map E.enc)
  | _, _, _, .nil => ⟨rfl, .nil⟩
  | _, _, _, .cons h r => by
    obtain ⟨e, q⟩ := RelAll.zero r
    obtain ⟨e2, q2⟩ := h
    exact ⟨by rw [e, e2]; rfl, .cons q2 q⟩
/-- a tuple -/
theorem lx_tup {sl : A → Env} {fs : (A → P → Option Ω) → Option Ω} {j : Nat} (h : LA X env xs sl e' fs) (E : Enc τ) (g : A → τ) (ds : A → List PyData) (hd : ∀ a, ShL (sl a) (ds a)) (he : ∀ a, E.enc (g a) = .tuple (ds a)) (hz : xs.length ≤ 1000 := by decide) (hz2 : ∀ a, (sl a).length = xs.length := by intro _; rfl) :
    LX X env (.Tuple xs j pos) (it E) e' (fun k => fs fun a p => k (g a) p) :=
  fun C F H σs es σ k ω Q hK hl hr hk q => tE.of X (pe_tup (paC X)) (h C F H σs es σ _ ω _ hK hl hr hk fun a p vs F' H' hk' hlv h' => by
    refine ⟨?_, fun t nt => ?_⟩
    · have := hz2 a; simp at hlv; exact Nat.le_of_lt (small1000 (by omega))
    · have r := (hd a).rep hlv h'
      refine q (g a) p (.ref t) (upd F' t (.tup vs)) _ hk' (((h'.popN hlv).newF nt).pushSh ?_)
      rw [he]
      exact .tup (SqT.of upd_same) (r.mono (same_new ((h'.popN hlv).fnone nt))))
/-- a list of shared things: a new one, of one's own -/
theorem lx_list {sl : A → Env} {fs : (A → P → Option Ω) → Option Ω} (h : LA X env xs sl e' fs) (E : Enc τ) (g : A → List τ) (hd : ∀ a, ShL (sl a) ((g a).map E.enc)) (hz : xs.length ≤ 1000 := by decide) (hz2 : ∀ a, (sl a).length = xs.length := by intro _; rfl) :
    LX X env (.List xs pos) (ls (it E)) e' (fun k => fs fun a p => k (g a) p) :=
  fun C F H σs es σ k ω Q hK hl hr hk q => tE.of X (pe_lst (paC X)) (h C F H σs es σ _ ω _ hK hl hr hk fun a p vs F' H' hk' hlv h' => by
    refine ⟨?_, fun t nt => ?_⟩
    · have := hz2 a; simp at hlv; exact Nat.le_of_lt (small1000 (by omega))
    · have r := (hd a).rep hlv h'
      exact q (g a) p (.ref t) F' _ hk' ((h'.popN hlv).newOw nt ⟨t, vs, [], rfl, upd_same, r.zero, rfl⟩))

/-! ### sequences that are read -/
/-- a list that is tracked -/
structure LVm (S : Stor τ) (S1 : Stor α) (g : τ → List α) : Prop where
  view : ∀ {K : Fg} {F H : Hp} {fp : List Addr} {v : V} {x : τ}, Same F H → S.rel K F H fp v x → ∃ p vs fps, v = .ref p ∧ H p = some (.lst vs) ∧ RelAll (S1.rel K F H) fps vs (g x)
/-- a list -/
structure LVw (S : Stor τ) (S1 : Stor α) (g : τ → List α) : Prop where
  view : ∀ {K : Fg} {F H : Hp} {fp : List Addr} {v : V} {x : τ}, Same F H → S.rel K F H fp v x → ∃ p vs fps, v = .ref p ∧ SqL K H p vs ∧ RelAll (S1.rel K F H) fps vs (g x)
structure TVw (S : Stor τ) (S1 : Stor α) (g : τ → List α) : Prop where
  view : ∀ {K : Fg} {F H : Hp} {fp : List Addr} {v : V} {x : τ}, Same F H → S.rel K F H fp v x → ∃ p vs fps, v = .ref p ∧ SqT K H p vs ∧ RelAll (S1.rel K F H) fps vs (g x)
theorem LVm.w {S1 : Stor α} {g : τ → List α} (h : LVm S S1 g) : LVw S S1 g := ⟨fun s r => let ⟨p, vs, fps, e, h1, h2⟩ := h.view s r; ⟨p, vs, fps, e, SqL.of h1, h2⟩⟩
theorem lm_sh : LVm (it (eL E)) (it E) id := ⟨fun {K F H fp v x} s r => by
  obtain ⟨_, r⟩ := r
  generalize hd : (eL E).enc x = d at r
  cases r with
  | lst h1 h2 =>
    simp only [eL] at hd
    injection hd with hd
    subst hd
    exact ⟨_, _, _, rfl, s _ _ h1, h2.zero⟩
  | _ => simp [eL] at hd⟩
theorem lm_ow {S1 : Stor α} : LVm (ls S1) S1 id := ⟨fun {K F H fp v x} s r => by
  obtain ⟨p, vs, fps, rfl, h, q, rfl⟩ := r
  exact ⟨p, vs, fps, rfl, h, q⟩⟩
theorem tv_sh : TVw (it (eV E)) (it E) id := ⟨fun {K F H fp v x} s r => by
  obtain ⟨_, r⟩ := r
  generalize hd : (eV E).enc x = d at r
  cases r with
  | tup h1 h2 =>
    simp only [eV] at hd
    injection hd with hd
    subst hd
    exact ⟨_, _, _, rfl, same_sqT s h1, h2.zero⟩
  | _ => simp [eV] at hd⟩
theorem atI_map {α β : Type} (f : α → β) (xs : List α) (i : Int) : atI (xs.map f) i = (atI xs i).map f := by
  unfold atI
  rw [List.length_map]
  cases ixN xs.length i with
  | none => rfl
  | some j => simp
theorem RepAll.at {K : Fg} {F : Hp} {vs : List V} {xs : List τ} {i : Int} {y : τ} (h : RepAll K F vs (xs.map E.enc)) (e : atI xs i = some y) : ∃ v, atI vs i = some v ∧ Rep K F v (E.enc y) := by
  have hl : vs.length = xs.length := by have := h.length; simpa using this
  unfold atI at e ⊢
  rw [hl]
  cases hj : ixN xs.length i with
  | none => rw [hj] at e; cases e
  | some j =>
    rw [hj] at e
    have e' : xs[j]? = some y := e
    obtain ⟨v, h1, h2⟩ := h.get (i := j) (d := E.enc y) (by rw [List.getElem?_map, e']; rfl)
    exact ⟨v, h1, h2⟩
/-- xs[i] of a list -/
theorem lx_ix {g : τ1 → List α} {E1 : Enc α} {fb : P1 → (Int → P2 → Option Ω) → Option Ω} (hv : LVw S1 (it E1) g) (ha : LO X G env a S1 e1 fa) (hb : ∀ p1, LX X (e1 p1) b (it eI) (e2 p1) (fb p1)) (hg : ∀ p1 p2, G (e2 p1 p2)) (hp : PlainIx b := by exact fun _ _ => rfl) :
    LX X env (.Subscript a b pos) (it E1) (fun p : P1 × P2 => e2 p.1 p.2) (fun k => fa fun x p1 => fb p1 fun i p2 => (atI (g x) i).bind fun y => k y (p1, p2)) :=
  fun C F H σs es σ k ω Q hK hl h hk q => tE.of X (pe_ix ix_list (peC X) (peC X) hp) (op2_run ha (fun p1 => lo_of (hb p1)) hg (fun _ _ => trivial) hK hl h hk
    fun x p1 i p2 v u F' H' fp fq hk' h' r1 r2 => by
      obtain ⟨y, hy, hk'⟩ := bind_some hk'
      obtain ⟨_, r2⟩ := r2
      cases r2
      obtain ⟨p, vs, fps, rfl, hs, ra⟩ := hv.view h'.sF r1
      obtain ⟨w, hw, rw'⟩ := ra.zero.2.at hy
      exact ⟨p, vs, i, w, rfl, rfl, by rw [← hK]; exact hs, hw, q y (p1, p2) w F' H' hk' (h'.pushSh rw')⟩)
/-- .. of a tuple of one kind -/
theorem lx_ixV {g : τ1 → List α} {E1 : Enc α} {fb : P1 → (Int → P2 → Option Ω) → Option Ω} (hv : TVw S1 (it E1) g) (ha : LO X G env a S1 e1 fa) (hb : ∀ p1, LX X (e1 p1) b (it eI) (e2 p1) (fb p1)) (hg : ∀ p1 p2, G (e2 p1 p2)) (hp : PlainIx b := by exact fun _ _ => rfl) :
    LX X env (.Subscript a b pos) (it E1) (fun p : P1 × P2 => e2 p.1 p.2) (fun k => fa fun x p1 => fb p1 fun i p2 => (atI (g x) i).bind fun y => k y (p1, p2)) :=
  fun C F H σs es σ k ω Q hK hl h hk q => tE.of X (pe_ix ix_tup (peC X) (peC X) hp) (op2_run ha (fun p1 => lo_of (hb p1)) hg (fun _ _ => trivial) hK hl h hk
    fun x p1 i p2 v u F' H' fp fq hk' h' r1 r2 => by
      obtain ⟨y, hy, hk'⟩ := bind_some hk'
      obtain ⟨_, r2⟩ := r2
      cases r2
      obtain ⟨p, vs, fps, rfl, hs, ra⟩ := hv.view h'.sF r1
      obtain ⟨w, hw, rw'⟩ := ra.zero.2.at hy
      exact ⟨p, vs, i, w, rfl, rfl, by rw [← hK]; exact hs, hw, q y (p1, p2) w F' H' hk' (h'.pushSh rw')⟩)
/-- the n-th part of a tuple that has parts of its own kinds -/
structure Part (E : Enc τ) (n : Int) (E1 : Enc α) (g : τ → α) : Prop where
  is : ∀ x, ∃ ds, E.enc x = .tuple ds ∧ atI ds n = some (E1.enc (g x))
theorem Rep.tup_inv {K : Fg} {F : Hp} {v : V} {ds : List PyData} (h : Rep K F v (.tuple ds)) : ∃ p vs, v = .ref p ∧ SqT K F p vs ∧ RepAll K F vs ds := by
  cases h with
  | tup h1 h2 => exact ⟨_, _, rfl, h1, h2⟩
theorem Rep.lst_inv {K : Fg} {F : Hp} {v : V} {ds : List PyData} (h : Rep K F v (.list ds)) : ∃ p vs, v = .ref p ∧ F p = some (.lst vs) ∧ RepAll K F vs ds := by
  cases h with
  | lst h1 h2 => exact ⟨_, _, rfl, h1, h2⟩
theorem RepAll.atD {K : Fg} {F : Hp} {vs : List V} {ds : List PyData} {i : Int} {y : PyData} (h : RepAll K F vs ds) (e : atI ds i = some y) : ∃ v, atI vs i = some v ∧ Rep K F v y := by
  have hl : vs.length = ds.length := h.length
  unfold atI at e ⊢
  rw [hl]
  cases hj : ixN ds.length i with
  | none => rw [hj] at e; cases e
  | some j =>
    rw [hj] at e
    exact h.get e
theorem lx_part {n : Int} {g : τ1 → α} {E' : Enc α} {j : Nat} {cp : Pos} (hp : Part E1 n E' g) (ha : LX X env a (it E1) e1 fa) :
    LX X env (.Subscript a (.Constant (.int n) j cp) pos) (it E') e1 (fun k => fa fun x p1 => k (g x) p1) :=
  fun C F H σs es σ k ω Q hK hl h hk q => tE.of X (pe_ix ix_tup (peC X) pe_int fun _ _ => rfl) (lo_run (lo_of ha) (fun _ => trivial) hK hl h hk
    fun x p1 v F' H' fp hk' h' r1 => by
      obtain ⟨_, r1⟩ := r1
      obtain ⟨ds, e1, e2⟩ := hp.is x
      rw [e1] at r1
      obtain ⟨p, vs, rfl, h1, h2⟩ := r1.tup_inv
      obtain ⟨w, hw, rw'⟩ := h2.atD e2
      exact ⟨p, vs, n, w, rfl, rfl, by rw [← hK]; exact same_sqT h'.sF h1, hw, q (g x) p1 w F' H' hk' (h'.pushSh rw')⟩)
/-- .. n below 0: -1 -/
theorem lx_partN {n : Int} {g : τ1 → α} {E' : Enc α} {j : Nat} {cp up : Pos} (hp : Part E1 (-n) E' g) (ha : LX X env a (it E1) e1 fa) :
    LX X env (.Subscript a (.UnaryOp .USub (.Constant (.int n) j cp) up) pos) (it E') e1 (fun k => fa fun x p1 => k (g x) p1) :=
  fun C F H σs es σ k ω Q hK hl h hk q => tE.of X (pe_ix ix_tup (peC X) (pe_un un_neg pe_int) fun _ _ => rfl) (lo_run (lo_of ha) (fun _ => trivial) hK hl h hk
    fun x p1 v F' H' fp hk' h' r1 => by
      obtain ⟨_, r1⟩ := r1
      obtain ⟨ds, e1, e2⟩ := hp.is x
      rw [e1] at r1
      obtain ⟨p, vs, rfl, h1, h2⟩ := r1.tup_inv
      obtain ⟨w, hw, rw'⟩ := h2.atD e2
      exact ⟨n, rfl, p, vs, -n, w, rfl, rfl, by rw [← hK]; exact same_sqT h'.sF h1, hw, q (g x) p1 w F' H' hk' (h'.pushSh rw')⟩)
theorem part2_0 {A : Enc α} {B : Enc β} : Part (eT2 A B) 0 A (·.1) := ⟨fun _ => ⟨_, rfl, rfl⟩⟩
theorem part2_1 {A : Enc α} {B : Enc β} : Part (eT2 A B) 1 B (·.2) := ⟨fun _ => ⟨_, rfl, rfl⟩⟩
theorem part3_0 {γ : Type} {A : Enc α} {B : Enc β} {D : Enc γ} : Part (eT3 A B D) 0 A (·.1) := ⟨fun _ => ⟨_, rfl, rfl⟩⟩
theorem part3_1 {γ : Type} {A : Enc α} {B : Enc β} {D : Enc γ} : Part (eT3 A B D) 1 B (·.2.1) := ⟨fun _ => ⟨_, rfl, rfl⟩⟩
theorem part3_2 {γ : Type} {A : Enc α} {B : Enc β} {D : Enc γ} : Part (eT3 A B D) 2 D (·.2.2) := ⟨fun _ => ⟨_, rfl, rfl⟩⟩
theorem part4_0 {γ δ : Type} {A : Enc α} {B : Enc β} {D : Enc γ} {D' : Enc δ} : Part (eT4 A B D D') 0 A (·.1) := ⟨fun _ => ⟨_, rfl, rfl⟩⟩
theorem part4_1 {γ δ : Type} {A : Enc α} {B : Enc β} {D : Enc γ} {D' : Enc δ} : Part (eT4 A B D D') 1 B (·.2.1) := ⟨fun _ => ⟨_, rfl, rfl⟩⟩
theorem part4_2 {γ δ : Type} {A : Enc α} {B : Enc β} {D : Enc γ} {D' : Enc δ} : Part (eT4 A B D D') 2 D (·.2.2.1) := ⟨fun _ => ⟨_, rfl, rfl⟩⟩
theorem part4_3 {γ δ : Type} {A : Enc α} {B : Enc β} {D : Enc γ} {D' : Enc δ} : Part (eT4 A B D D') 3 D' (·.2.2.2) := ⟨fun _ => ⟨_, rfl, rfl⟩⟩
end
end Z

set_option Elab.async false
set_option linter.all false
set_option maxRecDepth 100000
namespace Z
open PySem PySem.Spec PyProof.Rows L2

/-! ### targets -/
def Eqo (ix : List Nat) (σ σ' : List (Option V)) : Prop := σ'.length = σ.length ∧ ∀ j, j ∉ ix → σ'[j]? = σ[j]?
theorem Eqo.refl (ix : List Nat) (σ : List (Option V)) : Eqo ix σ σ := ⟨rfl, fun _ _ => rfl⟩
theorem Eqo.trans {ix : List Nat} {a b c : List (Option V)} (h : Eqo ix a b) (g : Eqo ix b c) : Eqo ix a c := ⟨g.1.trans h.1, fun j m => (g.2 j m).trans (h.2 j m)⟩
theorem Eqo.mono {ix iy : List Nat} {a b : List (Option V)} (h : Eqo ix a b) (s : ∀ j ∈ ix, j ∈ iy) : Eqo iy a b := ⟨h.1, fun j m => h.2 j fun z => m (s j z)⟩
theorem Eqo.set {σ : List (Option V)} {i : Nat} {o : Option V} : Eqo [i] σ (σ.set i o) := ⟨by simp, fun j m => List.getElem?_set_ne (by simp at m; omega)⟩
theorem wipe_get (σ : List (Option V)) : ∀ (vs : List Nat) (j : Nat), (wipe σ vs)[j]? = if j ∈ vs then (if j < σ.length then some none else none) else σ[j]?
  | [], j => by simp [wipe]
  | v :: vs, j => by
    unfold wipe
    by_cases e : v = j
    · subst e
      by_cases hl : v < σ.length
      · rw [List.getElem?_set_self (by rw [wipe_length]; exact hl)]; simp [hl]
      · rw [List.getElem?_eq_none (by rw [List.length_set, wipe_length]; omega)]; simp [hl]
    · rw [List.getElem?_set_ne e, wipe_get σ vs j]
      have : (j ∈ v :: vs) = (j ∈ vs) := by simp; intro z; exact absurd z.symm e
      simp only [this]
theorem Eqo.wipe {ix : List Nat} {a b : List (Option V)} (h : Eqo ix a b) : wipe b ix = wipe a ix := by
  apply List.ext_getElem?
  intro j
  rw [wipe_get, wipe_get, h.1]
  by_cases m : j ∈ ix
  · rw [if_pos m, if_pos m]
  · rw [if_neg m, if_neg m]; exact h.2 j m
section
variable (X : Cx)
def tG (tg : Expr) : TG := fun v σ H Q => ∀ pins s u, Inv X pins σ H s → RelV v u → wpAny (model X.prog X.w) X.A (assign tg X.env u) (fun _ s' => ∃ σ' H', Inv X pins σ' H' s' ∧ Q σ' H') X.xe s
def tGs (ts : List Expr) : TGs := fun vs σ H Q => ∀ pins s us, Inv X pins σ H s → Vals vs us → wpAny (model X.prog X.w) X.A (assignInOrder ((assignEach ts X.env).map (·.2)) us) (fun _ s' => ∃ σ' H', Inv X pins σ' H' s' ∧ Q σ' H') X.xe s
theorem pgC {tg : Expr} : PG X tg (tG X tg) := ⟨fun pins s σ H v u Q I r h => h pins s u I r⟩
theorem pgsC {ts : List Expr} : PGs X ts (tGs X ts) := ⟨fun pins s σ H vs us Q I r h => h pins s us I r⟩
theorem tG.of {tg : Expr} {t : TG} {v : V} {σ : L2.St} {H : Hp} {Q : L2.St → Hp → Prop} (h : PG X tg t) (q : t v σ H Q) : tG X tg v σ H Q := fun pins s u I r => h.run pins s σ H v u Q I r q
theorem tGs.of {ts : List Expr} {t : TGs} {vs : List V} {σ : L2.St} {H : Hp} {Q : L2.St → Hp → Prop} (h : PGs X ts t) (q : t vs σ H Q) : tGs X ts vs σ H Q := fun pins s us I r => h.run pins s σ H vs us Q I r q
/-- a target: where its value goes -/
def LG (ix : List Nat) (env : Env) (tg : Expr) {τ : Type} (S : Stor τ) (envT : τ → Env) : Prop :=
  ∀ (C : Ck) (F H : Hp) (σs : List (Option V)) (es : Env) (σ : List (Option V)) (v : V) (a : τ) (Q : L2.St → Hp → Prop), C.K = X.K → σs.length = es.length → ER C F H (some v :: (σs ++ σ)) (.st none τ S a :: (es ++ env)) →
    (∀ σ', Eqo ix σ σ' → ER C F H (σs ++ σ') (es ++ envT a) → Q σ' H) → tG X tg v σ H Q
/-- targets for the parts of a tuple -/
def LGs (ix : List Nat) (env : Env) (tgs : List Expr) {A : Type} (sl : A → Env) (envT : A → Env) : Prop :=
  ∀ (C : Ck) (F H : Hp) (σs : List (Option V)) (es : Env) (σ : List (Option V)) (vs : List V) (a : A) (Q : L2.St → Hp → Prop), C.K = X.K → σs.length = es.length → (vs.map some).length = (sl a).length → ER C F H (vs.map some ++ (σs ++ σ)) (sl a ++ (es ++ env)) →
    (∀ σ', Eqo ix σ σ' → ER C F H (σs ++ σ') (es ++ envT a) → Q σ' H) → tGs X tgs vs σ H Q
end
section
variable {X : Cx} {Ω : Type} {env : Env} {nm : Str} {pos : Pos} {a b e tg : Expr} {xs tgs : List Expr} {P P1 P2 A : Type} {τ τ1 τ2 α β : Type} {S : Stor τ} {S1 : Stor τ1} {S2 : Stor τ2} {E : Enc τ} {E1 : Enc τ1} {E2 : Enc τ2} {ix : List Nat}
theorem lg_name (i : Nat) (hN : X.N.Nodup) (hi : X.N[i]? = some nm := by rfl) (hx : Loc X.env.scope nm := by first | exact Or.inl rfl | exact Or.inr rfl) (hl : i < env.length := by exact (Nat.lt_of_sub_eq_succ rfl)) (hf : X.fn nm = true ∨ X.env.scope.names.lookup nm = some .local := by first | exact .inl rfl | exact .inr rfl) : LG X [i] env (.Name nm pos) S (fun a => env.set i (.st none τ S a)) :=
  fun C F H σs es σ v a Q hK hls h q => tG.of X (pg_name hN hi hx hf) (q _ Eqo.set (h.asg hls hl))
theorem lgs_nil : LGs X [] env [] (fun _ : Unit => []) (fun _ : Unit => env) := fun C F H σs es σ vs a Q hK hl hv h q => tGs.of X pgs_nil (by
  cases vs with
  | nil => exact ⟨rfl, q σ (Eqo.refl _ _) h⟩
  | cons v vs => simp at hv)
theorem lgs_cons {i1 i2 : List Nat} {env1 : τ → Env} {sl : A → Env} {env2 : τ → A → Env} (h1 : LG X i1 env tg S env1) (h2 : ∀ x, LGs X i2 (env1 x) tgs sl (env2 x))
    (hs : (assignEach (tg :: tgs) X.env).map (·.2) = assign tg X.env :: (assignEach tgs X.env).map (·.2) := by rfl) : LGs X (i1 ++ i2) env (tg :: tgs) (fun p : τ × A => .st none τ S p.1 :: sl p.2) (fun p : τ × A => env2 p.1 p.2) :=
  fun C F H σs es σ vs a Q hK hl hv h q => tGs.of X (pgs_cons (pgC X) (pgsC X) hs) (by
    cases vs with
    | nil => simp at hv
    | cons v vs =>
      have hv' : (vs.map some).length = (sl a.2).length := by simpa using hv
      refine ⟨v, vs, rfl, h1 C F H (vs.map some ++ σs) (sl a.2 ++ es) σ v a.1 _ hK (by simp [hl]; simpa using hv') (by simpa [List.append_assoc] using h) fun σ' e1 h' => ?_⟩
      exact h2 a.1 C F H σs es σ' vs a.2 Q hK hl hv' (by simpa [List.append_assoc] using h') fun σ2 e2 h3 => q σ2 ((e1.mono fun j m => List.mem_append_left _ m).trans (e2.mono fun j m => List.mem_append_right _ m)) h3)
/-- data that stand on the stack as shared slots -/
theorem ER.pushAll {C : Ck} {F H : Hp} : ∀ {sl : Env} {ds : List PyData}, ShL sl ds → ∀ {vs : List V} {σ : List (Option V)} {env : Env}, RepAll C.K F vs ds → ER C F H σ env → (vs.map some).length = sl.length ∧ ER C F H (vs.map some ++ σ) (sl ++ env)
  | _, _, .nil, _, σ, env, r, h => by cases r; exact ⟨rfl, h⟩
  | _, _, .cons q, _, σ, env, r, h => by
    cases r with
    | cons r1 r2 =>
      obtain ⟨e, h'⟩ := ER.pushAll q r2 h
      exact ⟨by simpa using e, h'.pushSh r1⟩
theorem lg_tup {sl : A → Env} {envT : A → Env} {j n : Nat} (h : LGs X ix env tgs sl envT) (g : τ → A) (ds : A → List PyData) (hd : ∀ a, ShL (sl a) (ds a)) (he : ∀ x, E.enc x = .tuple (ds (g x))) (hc : X.calm = true)
    (hz : ∀ a, (sl a).length = n) (hn : (assignEach tgs X.env).length = n := by rfl) (hst : (assignEach tgs X.env).findIdx? (·.1) = none := by rfl) : LG X ix env (.Tuple tgs j pos) (it E) (fun x => envT (g x)) :=
  fun C F H σs es σ v a Q hK hl hr q => tG.of X (pg_tup hc (pgsC X) hn hst) (by
    obtain ⟨v', fp, e1, r⟩ := hr.look (i := 0) rfl
    simp at e1; subst e1
    obtain ⟨_, r⟩ := r
    rw [he] at r
    obtain ⟨p, vs, rfl, h1, h2⟩ := r.tup_inv
    obtain ⟨hlv, h'⟩ := ER.pushAll (hd (g a)) h2 hr.pop
    have hl2 : vs.length = n := by have := hz (g a); simp at hlv; omega
    exact ⟨p, vs, rfl, by rw [← hK]; exact same_sqT hr.sF h1, hl2, h C F H σs es σ vs (g a) Q hK hl hlv h' q⟩)
end

/-! ### what is walked -/
section
variable (X : Cx) {Ω : Type}
def tI (tg iter : Expr) : TI := fun σ H R => ∀ pins s, Inv X pins σ H s → wpAny (model X.prog X.w) X.A (eval iter X.env) (fun v s1 => wpAny (model X.prog X.w) X.A (pyIter v) (PIE X pins σ tg R) X.xe s1) X.xe s
theorem piC {tg iter : Expr} : PI X tg iter (tI X tg iter) := ⟨fun pins s σ H R I h => h pins s I⟩
theorem tI.of {tg iter : Expr} {t : TI} {σ : L2.St} {H : Hp} {R : It → Hp → Prop} (h : PI X tg iter t) (q : t σ H R) : tI X tg iter σ H R := fun pins s I => h.run pins s σ H R I q
/-- J yields xs, as long as the stack's top stands; each item may make new things -/
structure Yields (C : Ck) {α : Type} (S : Stor α) (J : It) (xs : List α) (σx : List (Option V)) (ex : Env) : Prop where
  len : σx.length = ex.length
  go : ∀ (i : Nat) (F H : Hp) (σ2 σb : List (Option V)) (e2 eb : Env), σ2.length = e2.length → ER C F H (σ2 ++ (σx ++ σb)) (e2 ++ (ex ++ eb)) →
    (∀ x, xs[i]? = some x → J.go i H ∧ ∀ v H', J.yld i H v H' → ∃ F', ER C F' H' (some v :: (σ2 ++ (σx ++ σb))) (.st none α S x :: (e2 ++ (ex ++ eb)))) ∧ (xs[i]? = none → J.stop i H)
def LI (env : Env) (tg iter : Expr) {α : Type} (S : Stor α) {P : Type} (env' : P → Env) (f : (List α → P → Option Ω) → Option Ω) : Prop :=
  ∀ (C : Ck) (F H : Hp) (σs : List (Option V)) (es : Env) (σ : List (Option V)) (k : List α → P → Option Ω) (ω : Ω) (R : It → Hp → Prop), C.K = X.K → σs.length = es.length → ER C F H (σs ++ σ) (es ++ env) → f k = some ω →
    (∀ xs p J F' H' (σx : List (Option V)) (ex : Env), k xs p = some ω → ER C F' H' (σx ++ (σs ++ σ)) (ex ++ (es ++ env' p)) → Yields C S J xs σx ex → R J H') → tI X tg iter σ H R
end
section
variable {X : Cx} {Ω : Type} {env : Env} {nm : Str} {pos : Pos} {a b e tg : Expr} {xs tgs : List Expr} {P P1 P2 A : Type} {τ τ1 τ2 α β : Type} {S : Stor τ} {S1 : Stor τ1} {S2 : Stor τ2} {E : Enc τ} {E1 : Enc τ1} {E2 : Enc τ2} {ix : List Nat} {e' : P → Env} {e1 : P1 → Env} {e2 : P1 → P2 → Env}
theorem li_list {g : τ → List α} {Ea : Enc α} {f : (τ → P → Option Ω) → Option Ω} (hv : LVw S (it Ea) g) (h : LX X env e S e' f) : LI X env tg e (it Ea) e' (fun k => f fun x p => k (g x) p) :=
  fun C F H σs es σ k ω R hK hl hr hk q => tI.of X (pi_list (peC X)) (h C F H σs es σ _ ω _ hK hl hr hk fun x p v F' H' hk' h' => by
    obtain ⟨v', fp, e1, r⟩ := h'.look (i := 0) rfl
    simp at e1; subst e1
    obtain ⟨p0, vs, fps, rfl, hs, ra⟩ := hv.view h'.sF r
    refine ⟨p0, rfl, ⟨vs, by rw [← hK]; exact hs⟩, q (g x) p (Itl X.K p0) F' H' [some (.ref p0)] [.st none τ S x] hk' h' ⟨rfl, fun i F2 H2 σ2 σb e2 eb hl2 h2 => ?_⟩⟩
    obtain ⟨v', fp', e1, r'⟩ := h2.look (i := e2.length + 0) (by rw [at_app _ rfl]; rfl)
    rw [at_app _ hl2] at e1
    simp at e1; subst e1
    obtain ⟨p1, ws, fps', e3, hs', ra'⟩ := hv.view h2.sF r'
    cases e3
    rw [hK] at hs'
    have rp := ra'.zero.2
    refine ⟨fun y hy => ?_, fun hn => ?_⟩
    · obtain ⟨w, hw, rw'⟩ := rp.get (i := i) (d := Ea.enc y) (by rw [List.getElem?_map, hy]; rfl)
      refine ⟨⟨ws, w, hs', hw⟩, fun v H' hy' => ⟨F2, ?_⟩⟩
      obtain ⟨e4, hy'⟩ := hy'
      have := hy' ws hs'
      rw [hw] at this; cases this
      rw [e4]
      exact h2.pushSh rw'
    · refine ⟨ws, hs', ?_⟩
      have := rp.length
      simp at this
      have := List.getElem?_eq_none_iff.mp hn
      omega)
/-- the ints of a range -/
def rangeL (lo hi : Int) : List Int := (List.range (hi - lo).toNat).map fun i => lo + (i : Nat)
def rgOk (lo hi : Int) : Bool := decide (-(2 ^ 62) ≤ lo ∧ lo < 2 ^ 62 ∧ -(2 ^ 62) ≤ hi ∧ hi < 2 ^ 62)
theorem yields_range {C : Ck} {lo : Int} {hi : Int} : Yields C (it eI) (Itr lo (hi - lo).toNat) (rangeL lo hi) [] [] := ⟨rfl, fun i F H σ2 σb e2 eb hl2 h2 => by
  refine ⟨fun y hy => ?_, fun hn => ?_⟩
  · unfold rangeL at hy
    rw [List.getElem?_map] at hy
    by_cases hi : i < (hi - lo).toNat
    · rw [List.getElem?_range hi] at hy
      simp at hy; subst hy
      refine ⟨hi, fun v H' hy' => ⟨F, ?_⟩⟩
      obtain ⟨e1, e2⟩ := hy'
      rw [e1, e2]
      exact h2.pushSh (.int _)
    · rw [List.getElem?_eq_none (by simpa using hi)] at hy; cases hy
  · unfold rangeL at hn
    rw [List.getElem?_eq_none_iff] at hn
    simp at hn
    show (hi - lo).toNat ≤ i
    omega⟩
theorem li_range2 {f1 : (Int → P1 → Option Ω) → Option Ω} {f2 : P1 → (Int → P2 → Option Ω) → Option Ω} {p : Pos} (hg : Gl X "range") (hm : X.mg "range" = none) (h1 : LX X env a (it eI) e1 f1) (h2 : ∀ p1, LX X (e1 p1) b (it eI) (e2 p1) (f2 p1))
    (hs : starEach [a, b] X.env = [(false, eval a X.env), (false, eval b X.env)] := by rfl) (hs2 : starEach [b] X.env = [(false, eval b X.env)] := by rfl) (hs3 : starEach [a, b] X.env = (false, eval a X.env) :: starEach [b] X.env := by rfl) (hs4 : starEach [b] X.env = (false, eval b X.env) :: starEach [] X.env := by rfl) :
    LI X env tg (.Call (.Name "range" p) [a, b] [] pos) (it eI) (fun q : P1 × P2 => e2 q.1 q.2) (fun k => f1 fun x p1 => f2 p1 fun y p2 => ck (rgOk x y) (k (rangeL x y) (p1, p2))) :=
  fun C F H σs es σ k ω R hK hl hr hk q => tI.of X (pi_range2 hg hm (pa_cons (peC X) (pa_cons (peC X) pa_nil hs4) hs3) hs hs2) (op2_run (lo_of h1) (fun p1 => lo_of (h2 p1)) (fun _ _ => trivial) (fun _ _ => trivial) hK hl hr hk
    fun x p1 y p2 v u F' H' fp fq hk' h' r1 r2 => by
      obtain ⟨hc, hk'⟩ := ck_some hk'
      obtain ⟨_, r1⟩ := r1
      obtain ⟨_, r2⟩ := r2
      cases r1; cases r2
      exact ⟨x, y, rfl, of_decide_eq_true (p := -(2 ^ 62) ≤ x ∧ x < 2 ^ 62 ∧ -(2 ^ 62) ≤ y ∧ y < 2 ^ 62) hc, q (rangeL x y) (p1, p2) _ F' H' [] [] hk' h' yields_range⟩)
theorem li_range1 {f1 : (Int → P1 → Option Ω) → Option Ω} {p : Pos} (hg : Gl X "range") (hm : X.mg "range" = none) (h1 : LX X env a (it eI) e1 f1)
    (hs : starEach [a] X.env = [(false, eval a X.env)] := by rfl) (hs4 : starEach [a] X.env = (false, eval a X.env) :: starEach [] X.env := by rfl) :
    LI X env tg (.Call (.Name "range" p) [a] [] pos) (it eI) e1 (fun k => f1 fun y p1 => ck (rgOk 0 y) (k (rangeL 0 y) p1)) :=
  fun C F H σs es σ k ω R hK hl hr hk q => tI.of X (pi_range1 hg hm (pa_cons (peC X) pa_nil hs4) hs) (lo_run (lo_of h1) (fun _ => trivial) hK hl hr hk
    fun y p1 v F' H' fp hk' h' r1 => by
      obtain ⟨hc, hk'⟩ := ck_some hk'
      obtain ⟨_, r1⟩ := r1
      cases r1
      have hc' := of_decide_eq_true (p := -(2 ^ 62) ≤ (0 : Int) ∧ (0 : Int) < 2 ^ 62 ∧ -(2 ^ 62) ≤ y ∧ y < 2 ^ 62) hc
      have e0 : (y - 0).toNat = y.toNat := by omega
      refine ⟨y, rfl, hc'.2.2.1, hc'.2.2.2, ?_⟩
      rw [← e0]
      exact q (rangeL 0 y) p1 _ F' H' [] [] hk' h' yields_range)
end

/-! ### statements -/
/-- a loop over items: go on, or out -/
def forO {α S Ω : Type} : List α → S → (α → S → (S → Option Ω) → Option Ω) → (S → Option Ω) → Option Ω
  | [], s, _, k => k s
  | x :: xs, s, b, k => b x s fun s' => forO xs s' b k
/-- a loop with fuel -/
def whileO {S Ω : Type} : Nat → S → (S → (S → Option Ω) → Option Ω) → Option Ω
  | 0, _, _ => none
  | n + 1, s, b => b s fun s' => whileO n s' b
section
variable {X : Cx} {R I Ω : Type} {SR : Stor R} {envR : I → Env} {kr : R → I → Option Ω} {bk ct : Lp Ω} {env : Env} {nm : Str} {pos : Pos} {c e tg iter : Expr} {sts sa sb rest : List Stmt} {P A : Type} {τ α : Type} {S : Stor τ} {Sa : Stor α} {e' : P → Env} {ix : List Nat} {J J1 : Type} {envJ : J → Env} {env1 : J1 → Env}
theorem lb_end (j : J) (hs : Sub env (envJ j)) : LB X SR envR kr bk ct env [] envJ (fun kn => kn j) :=
  fun C F H σs es σ kn ω D hK hl h hk qn qb qc qr => tSs.of X pss_nil (qn j F H σ hk (h.subF hs))
theorem lb_sub {env0 : Env} {f : (J → Option Ω) → Option Ω} (hs : Sub env env0) (h : LB X SR envR kr bk ct env0 sts envJ f) : LB X SR envR kr bk ct env sts envJ f :=
  fun C F H σs es σ kn ω D hK hl hr hk qn qb qc qr => h C F H σs es σ kn ω D hK hl (hr.subF hs) hk qn qb qc qr
/-- a slot is shared from here on -/
theorem lb_frz {E : Enc τ} {x : τ} {f : (J → Option Ω) → Option Ω} (i : Nat) (fz : Frz S E) (he : env[i]? = some (.st none τ S x)) (h : LB X SR envR kr bk ct (env.set i (.st none τ (it E) x)) sts envJ f) : LB X SR envR kr bk ct env sts envJ f :=
  fun C F H σs es σ kn ω D hK hl hr hk qn qb qc qr => by
    obtain ⟨F', sF, h'⟩ := hr.freeze (i := es.length + i) fz (by rw [at_app _ rfl]; exact he)
    rw [List.set_append_right _ _ (Nat.le_add_right _ _), Nat.add_sub_cancel_left] at h'
    exact h C F' H σs es σ kn ω D hK hl h' hk qn qb qc qr
theorem lb_asg {f : (τ → P → Option Ω) → Option Ω} {fr : τ → P → (J → Option Ω) → Option Ω} {envT : P → τ → Env} (he : LX X env e S e' f) (hg : ∀ p, LG X ix (e' p) tg S (envT p)) (hr : ∀ x p, LB X SR envR kr bk ct (envT p x) rest envJ (fr x p))
    (hs : swapsWithSole [tg] e pos.line X.env = pure false := by rfl) (hw : swappedStores [tg] e X.env = pure none := by rfl) (h1 : (assignEach [tg] X.env).map (·.2) = [assign tg X.env] := by rfl) :
    LB X SR envR kr bk ct env (.Assign [tg] e pos :: rest) envJ (fun kn => f fun x p => fr x p kn) :=
  fun C F H σs es σ kn ω D hK hl h hk qn qb qc qr => tSs.of X (pss_cons (ps_asg (peC X) (pgC X) hs hw h1) (pssC X)) (he C F H σs es σ _ ω _ hK hl h hk fun x p v F' H' hk' h' =>
    hg p C F' H' σs es σ v x _ hK hl h' fun σ' _ h2 => hr x p C F' H' σs es σ' kn ω D hK hl h2 hk' qn qb qc qr)
theorem lb_set {f : (τ → P → Option Ω) → Option Ω} {fr : τ → P → (J → Option Ω) → Option Ω} {pos' : Pos} (i : Nat) (hN : X.N.Nodup) (he : LX X env e S e' f) (hr : ∀ x p, LB X SR envR kr bk ct ((e' p).set i (.st none τ S x)) rest envJ (fr x p))
    (hi : X.N[i]? = some nm := by rfl) (hx : Loc X.env.scope nm := by first | exact Or.inl rfl | exact Or.inr rfl) (hlt : ∀ p, i < (e' p).length := by exact (fun _ => Nat.lt_of_sub_eq_succ rfl)) (hf : X.fn nm = true ∨ X.env.scope.names.lookup nm = some .local := by first | exact .inl rfl | exact .inr rfl) (hs : swapsWith e (some (.Name nm pos')) pos.line X.env = pure false := by rfl) :
    LB X SR envR kr bk ct env (.Assign [.Name nm pos'] e pos :: rest) envJ (fun kn => f fun x p => fr x p kn) :=
  fun C F H σs es σ kn ω D hK hl h hk qn qb qc qr => tSs.of X (pss_cons (ps_set hN hi hx (peC X) hs hf) (pssC X)) (he C F H σs es σ _ ω _ hK hl h hk fun x p v F' H' hk' h' =>
    hr x p C F' H' σs es (σ.set i (some v)) kn ω D hK hl (h'.asg hl (hlt p)) hk' qn qb qc qr)
theorem lb_if {f : (Bool → P → Option Ω) → Option Ω} {fa fb : P → (J1 → Option Ω) → Option Ω} {fr : J1 → (J → Option Ω) → Option Ω} (hc : LT X env c e' f) (ha : ∀ p, LB X SR envR kr bk ct (e' p) sa env1 (fa p)) (hb : ∀ p, LB X SR envR kr bk ct (e' p) sb env1 (fb p)) (hr : ∀ j, LB X SR envR kr bk ct (env1 j) rest envJ (fr j)) :
    LB X SR envR kr bk ct env (.If c sa sb pos :: rest) envJ (fun kn => f fun b p => if b = true then fa p fun j => fr j kn else fb p fun j => fr j kn) :=
  fun C F H σs es σ kn ω D hK hl h hk qn qb qc qr => tSs.of X (pss_cons (ps_if (ptC X) (pssC X) (pssC X)) (pssC X)) (hc C F H σs es σ _ ω _ hK hl h hk fun b p F' H' hk' h' => by
    cases b with
    | true =>
      rw [if_pos rfl] at hk'
      show if true = true then _ else _
      rw [if_pos rfl]
      exact ha p C F' H' σs es σ _ ω _ hK hl h' hk' (fun j F2 H2 σ2 hk2 h2 => hr j C F2 H2 σs es σ2 kn ω D hK hl h2 hk2 qn qb qc qr) qb qc qr
    | false =>
      rw [if_neg Bool.false_ne_true] at hk'
      show if false = true then _ else _
      rw [if_neg Bool.false_ne_true]
      exact hb p C F' H' σs es σ _ ω _ hK hl h' hk' (fun j F2 H2 σ2 hk2 h2 => hr j C F2 H2 σs es σ2 kn ω D hK hl h2 hk2 qn qb qc qr) qb qc qr)
/-- an if whose body never goes on -/
theorem lb_ifr {f : (Bool → P → Option Ω) → Option Ω} {fa : P → (Empty → Option Ω) → Option Ω} {fr : P → (J → Option Ω) → Option Ω} (hc : LT X env c e' f) (ha : ∀ p, LB X SR envR kr bk ct (e' p) sa (fun z : Empty => z.elim) (fa p)) (hr : ∀ p, LB X SR envR kr bk ct (e' p) rest envJ (fr p)) :
    LB X SR envR kr bk ct env (.If c sa [] pos :: rest) envJ (fun kn => f fun b p => if b = true then fa p (fun z => z.elim) else fr p kn) :=
  fun C F H σs es σ kn ω D hK hl h hk qn qb qc qr => tSs.of X (pss_cons (ps_if (ptC X) (pssC X) pss_nil) (pssC X)) (hc C F H σs es σ _ ω _ hK hl h hk fun b p F' H' hk' h' => by
    cases b with
    | true =>
      rw [if_pos rfl] at hk'
      show if true = true then _ else _
      rw [if_pos rfl]
      exact ha p C F' H' σs es σ _ ω _ hK hl h' hk' (fun z => z.elim) qb qc qr
    | false =>
      rw [if_neg Bool.false_ne_true] at hk'
      show if false = true then _ else _
      rw [if_neg Bool.false_ne_true]
      exact hr p C F' H' σs es σ kn ω D hK hl h' hk' qn qb qc qr)
theorem lb_ret {f : (R → P → Option Ω) → Option Ω} (he : LX X env e SR e' f) (g : P → I) (hs : ∀ p, Sub (e' p) (envR (g p))) : LB X SR envR kr bk ct env (.Return (some e) pos :: rest) envJ (fun _ => f fun x p => kr x (g p)) :=
  fun C F H σs es σ kn ω D hK hl h hk qn qb qc qr => tSs.of X (pss_cons (ps_ret (peC X)) (pssC X)) (he C F H σs es σ _ ω _ hK hl h hk fun x p v F' H' hk' h' =>
    qr x (g p) v F' H' σ hk' (ER.sub h' (.keep ((hs p).pre es))))
theorem lb_brk (j : bk.J) (hs : Sub env (bk.env j)) : LB X SR envR kr bk ct env (.Break pos :: rest) envJ (fun _ => bk.k j) :=
  fun C F H σs es σ kn ω D hK hl h hk qn qb qc qr => tSs.of X (pss_cons ps_break (pssC X)) (qb j F H σ hk (h.subF hs))
theorem lb_cont (j : ct.J) (hs : Sub env (ct.env j)) : LB X SR envR kr bk ct env (.Continue pos :: rest) envJ (fun _ => ct.k j) :=
  fun C F H σs es σ kn ω D hK hl h hk qn qb qc qr => tSs.of X (pss_cons ps_continue (pssC X)) (qc j F H σ hk (h.subF hs))
theorem lb_pass {f : (J → Option Ω) → Option Ω} (hr : LB X SR envR kr bk ct env rest envJ f) : LB X SR envR kr bk ct env (.Pass pos :: rest) envJ f :=
  fun C F H σs es σ kn ω D hK hl h hk qn qb qc qr => tSs.of X (pss_cons ps_pass (pssC X)) (hr C F H σs es σ kn ω D hK hl h hk qn qb qc qr)
/-- an expression for what it does -/
theorem lb_expr {f : (τ → P → Option Ω) → Option Ω} {fr : P → (J → Option Ω) → Option Ω} (he : LX X env e S e' f) (hr : ∀ p, LB X SR envR kr bk ct (e' p) rest envJ (fr p)) (hs : swapsWith e none pos.line X.env = pure false := by rfl) :
    LB X SR envR kr bk ct env (.Expr e pos :: rest) envJ (fun kn => f fun _ p => fr p kn) :=
  fun C F H σs es σ kn ω D hK hl h hk qn qb qc qr => tSs.of X (pss_cons (ps_expr (peC X) hs) (pssC X)) (he C F H σs es σ _ ω _ hK hl h hk fun x p v F' H' hk' h' =>
    hr p C F' H' σs es σ kn ω D hK hl h'.pop hk' qn qb qc qr)
/-- a for; T: what it carries -/
theorem lb_for {T : Type} {envT : T → Env} {envX : T → α → Env} {f : (List α → P → Option Ω) → Option Ω} {fb : α → T → (T → Option Ω) → (T → Option Ω) → (T → Option Ω) → Option Ω} {fr : T → (J → Option Ω) → Option Ω}
    (hp : PassesOwn (model X.prog X.w) X.A X.env X.xe) (hc : X.calm = true) (hi : LI X env tg iter Sa e' f) (t0 : P → T) (h0 : ∀ p, Sub (e' p) (envT (t0 p))) (hg : ∀ t, LG X ix (envT t) tg Sa (envX t))
    (hb : ∀ x t kc kb, LB X SR envR kr ⟨T, envT, kb⟩ ⟨T, envT, kc⟩ (envX t x) sts envT (fun kn => fb x t kn kc kb)) (hr : ∀ t, LB X SR envR kr bk ct (envT t) rest envJ (fr t)) (hs : ∀ x, foldedSetIterable iter X.env x = pure x := by intro _; rfl) :
    LB X SR envR kr bk ct env (.For tg iter sts [] pos :: rest) envJ (fun kn => f fun xs p => forO xs (t0 p) (fun x t kc => fb x t kc kc fun t' => fr t' kn) fun t' => fr t' kn) :=
  fun C F H σs es σ kn ω D hK hl h hk qn qb qc qr => tSs.of X (pss_cons (ps_for hp hc (piC X) (pgC X) (pssC X) hs) (pssC X)) (hi C F H σs es σ _ ω _ hK hl h hk fun xs p Jt F' H' σx ex hk' h' hy => by
    have out : ∀ t F2 H2 σ2, fr t kn = some ω → ER C F2 H2 (σx ++ (σs ++ σ2)) (ex ++ (es ++ envT t)) → tSs X rest D σ2 H2 := fun t F2 H2 σ2 hk2 h2 =>
      hr t C F2 H2 σs es σ2 kn ω D hK hl (h2.popN hy.len) hk2 qn qb qc qr
    refine ⟨fun i m σ2 H2 => m = xs.length - i ∧ i ≤ xs.length ∧ ∃ t F2, ER C F2 H2 (σx ++ (σs ++ σ2)) (ex ++ (es ++ envT t)) ∧ forO (xs.drop i) t (fun x t kc => fb x t kc kc fun t' => fr t' kn) (fun t' => fr t' kn) = some ω,
      ⟨xs.length, by simp, Nat.zero_le _, t0 p, F', h'.sub (((h0 p).pre es).pre ex), by simpa using hk'⟩, ?_⟩
    rintro i m σ2 H2 ⟨rfl, hi, t, F2, h2, hk2⟩
    obtain ⟨y1, y2⟩ := hy.go i F2 H2 [] (σs ++ σ2) [] (es ++ envT t) rfl h2
    by_cases hlt : i < xs.length
    · have ex1 : xs[i]? = some xs[i] := List.getElem?_eq_getElem hlt
      obtain ⟨g1, g2⟩ := y1 _ ex1
      have ed : xs.drop i = xs[i] :: xs.drop (i + 1) := List.drop_eq_getElem_cons hlt
      rw [ed] at hk2
      refine .inr ⟨g1, fun σ3 H3 => ∃ t F3, ER C F3 H3 (σx ++ (σs ++ σ3)) (ex ++ (es ++ envT t)) ∧ forO (xs.drop (i + 1)) t (fun x t kc => fb x t kc kc fun t' => fr t' kn) (fun t' => fr t' kn) = some ω,
        fun σ3 H3 ⟨t3, F3, h3, hk3⟩ => ⟨xs.length - (i + 1), by omega, rfl, hlt, t3, F3, h3, hk3⟩, fun v H3 hv => ?_⟩
      obtain ⟨F3, h3⟩ := g2 v H3 hv
      refine hg t C F3 H3 (σx ++ σs) (ex ++ es) σ2 v xs[i] _ hK (by simp [hl, hy.len]) (by simpa [List.append_assoc] using h3) fun σ4 _ h4 => ?_
      refine hb xs[i] t (fun s' => forO (xs.drop (i + 1)) s' (fun x t kc => fb x t kc kc fun t' => fr t' kn) fun t' => fr t' kn) (fun t' => fr t' kn) C F3 H3 (σx ++ σs) (ex ++ es) σ4 _ ω _ hK (by simp [hl, hy.len]) h4 hk2 ?_ ?_ ?_ ?_
      · intro t5 F5 H5 σ5 hk5 h5; exact ⟨t5, F5, by simpa [List.append_assoc] using h5, hk5⟩
      · intro t5 F5 H5 σ5 hk5 h5; exact out t5 F5 H5 σ5 hk5 (by simpa [List.append_assoc] using h5)
      · intro t5 F5 H5 σ5 hk5 h5; exact ⟨t5, F5, by simpa [List.append_assoc] using h5, hk5⟩
      · intro a5 i5 v5 F5 H5 σ5 hk5 h5
        refine qr a5 i5 v5 F5 H5 σ5 hk5 ?_
        have h6 : ER C F5 H5 (σx ++ (some v5 :: (σs ++ σ5))) (ex ++ (.st none R SR a5 :: (es ++ envR i5))) := by
          have z : ER C F5 H5 ([some v5] ++ (σx ++ (σs ++ σ5))) ([.st none R SR a5] ++ (ex ++ (es ++ envR i5))) := by simpa [List.append_assoc] using h5
          exact ER.unrot z hy.len
        exact h6.popN hy.len
    · have e : i = xs.length := by omega
      subst e
      refine .inl ⟨y2 (by simp), out t F2 H2 σ2 ?_ h2⟩
      simpa [forO] using hk2)
end
end Z

set_option Elab.async false
set_option linter.all false
set_option maxRecDepth 100000
namespace Z
open PySem PySem.Spec PyProof.Rows L2

/-! ### and, or, if-else -/
section
variable (X : Cx) {Ω : Type}
def tW (e : Expr) : TT := fun σ H Q => ∀ whole pins s, Inv X pins σ H s → wpAny (model X.prog X.w) X.A (isTrue e X.env whole) (TP X pins σ Q) X.xe s
theorem pwC {e : Expr} : PW X e (tW X e) := ⟨fun whole pins s σ H Q I h => h whole pins s I⟩
theorem tW.of {e : Expr} {t : TT} {σ : L2.St} {H : Hp} {Q : Bool → Hp → Prop} (h : PW X e t) (q : t σ H Q) : tW X e σ H Q := fun whole pins s I => h.run whole pins s σ H Q I q
def LW (env : Env) (e : Expr) {P : Type} (env' : P → Env) (f : (Bool → P → Option Ω) → Option Ω) : Prop :=
  ∀ (C : Ck) (F H : Hp) (σs : List (Option V)) (es : Env) (σ : List (Option V)) (k : Bool → P → Option Ω) (ω : Ω) (Q : Bool → Hp → Prop), C.K = X.K → σs.length = es.length → ER C F H (σs ++ σ) (es ++ env) → f k = some ω →
    (∀ a p F' H', k a p = some ω → ER C F' H' (σs ++ σ) (es ++ env' p) → Q a H') → tW X e σ H Q
end
section
variable {X : Cx} {Ω : Type} {env : Env} {nm : Str} {pos : Pos} {a b c e : Expr} {xs rest : List Expr} {P P1 P2 P3 A : Type} {τ τ1 τ2 α β : Type} {S : Stor τ} {S1 : Stor τ1} {S2 : Stor τ2} {E : Enc τ} {E1 : Enc τ1} {E2 : Enc τ2}
  {G : Env → Prop} {e' : P → Env} {e1 : P1 → Env} {e2 : P1 → P2 → Env} {e3 : P1 → P3 → Env}
theorem lt_w {f : (Bool → P → Option Ω) → Option Ω} (h : LW X env e e' f) : LT X env e e' f :=
  fun C F H σs es σ k ω Q hK hl hr hk q => tT.of X (pwC X).pt (h C F H σs es σ k ω Q hK hl hr hk q)
theorem lw_and1 {f : (Bool → P → Option Ω) → Option Ω} (h : LT X env a e' f) : LW X env (.BoolOp .And [a] pos) e' f :=
  fun C F H σs es σ k ω Q hK hl hr hk q => tW.of X (pw_and1 (ptC X)) (h C F H σs es σ k ω Q hK hl hr hk q)
theorem lw_or1 {f : (Bool → P → Option Ω) → Option Ω} (h : LT X env a e' f) : LW X env (.BoolOp .Or [a] pos) e' f :=
  fun C F H σs es σ k ω Q hK hl hr hk q => tW.of X (pw_or1 (ptC X)) (h C F H σs es σ k ω Q hK hl hr hk q)
theorem lw_and {fa : (Bool → P1 → Option Ω) → Option Ω} {fb : P1 → (Bool → P2 → Option Ω) → Option Ω} (ha : LT X env a e1 fa) (hb : ∀ p1, LW X (e1 p1) (.BoolOp .And (b :: rest) pos) (e2 p1) (fb p1)) (hs : ∀ p1 p2, Sub (e2 p1 p2) (e1 p1)) :
    LW X env (.BoolOp .And (a :: b :: rest) pos) e1 (fun k => fa fun x p1 => if x = true then fb p1 fun y _ => k y p1 else k false p1) :=
  fun C F H σs es σ k ω Q hK hl hr hk q => tW.of X (pw_and (ptC X) (pwC X)) (ha C F H σs es σ _ ω _ hK hl hr hk fun x p1 F' H' hk' h' => by
    cases x with
    | true => rw [if_pos rfl] at hk' ⊢; exact hb p1 C F' H' σs es σ _ ω Q hK hl h' hk' fun y p2 F2 H2 hk2 h2 => q y p1 F2 H2 hk2 (h2.subF (hs p1 p2))
    | false => rw [if_neg Bool.false_ne_true] at hk' ⊢; exact q false p1 F' H' hk' h')
theorem lw_or {fa : (Bool → P1 → Option Ω) → Option Ω} {fb : P1 → (Bool → P2 → Option Ω) → Option Ω} (ha : LT X env a e1 fa) (hb : ∀ p1, LW X (e1 p1) (.BoolOp .Or (b :: rest) pos) (e2 p1) (fb p1)) (hs : ∀ p1 p2, Sub (e2 p1 p2) (e1 p1)) :
    LW X env (.BoolOp .Or (a :: b :: rest) pos) e1 (fun k => fa fun x p1 => if x = true then k true p1 else fb p1 fun y _ => k y p1) :=
  fun C F H σs es σ k ω Q hK hl hr hk q => tW.of X (pw_or (ptC X) (pwC X)) (ha C F H σs es σ _ ω _ hK hl hr hk fun x p1 F' H' hk' h' => by
    cases x with
    | true => rw [if_pos rfl] at hk' ⊢; exact q true p1 F' H' hk' h'
    | false => rw [if_neg Bool.false_ne_true] at hk' ⊢; exact hb p1 C F' H' σs es σ _ ω Q hK hl h' hk' fun y p2 F2 H2 hk2 h2 => q y p1 F2 H2 hk2 (h2.subF (hs p1 p2)))
/-- as values -/
theorem lx_one {op : BoolOp} {f : (Bool → P → Option Ω) → Option Ω} (h : LX X env a (it eB) e' f) : LX X env (.BoolOp op [a] pos) (it eB) e' f :=
  fun C F H σs es σ k ω Q hK hl hr hk q => tE.of X (pe_one (peC X)) (h C F H σs es σ k ω Q hK hl hr hk q)
theorem ER.topB {C : Ck} {F H : Hp} {v : V} {x : Bool} {σ : List (Option V)} {env : Env} (h : ER C F H (some v :: σ) (.st none Bool (it eB) x :: env)) : v = .bl x := by
  obtain ⟨v', fp, e1, r⟩ := h.look (i := 0) rfl
  simp at e1; subst e1
  obtain ⟨_, r⟩ := r
  cases r; rfl
theorem lx_and {fa : (Bool → P1 → Option Ω) → Option Ω} {fb : P1 → (Bool → P2 → Option Ω) → Option Ω} (ha : LX X env a (it eB) e1 fa) (hb : ∀ p1, LX X (e1 p1) (.BoolOp .And (b :: rest) pos) (it eB) (e2 p1) (fb p1)) (hs : ∀ p1 p2, Sub (e2 p1 p2) (e1 p1)) :
    LX X env (.BoolOp .And (a :: b :: rest) pos) (it eB) e1 (fun k => fa fun x p1 => if x = true then fb p1 fun y _ => k y p1 else k false p1) :=
  fun C F H σs es σ k ω Q hK hl hr hk q => tE.of X (pe_and (peC X) (peC X)) (ha C F H σs es σ _ ω _ hK hl hr hk fun x p1 v F' H' hk' h' => by
    refine ⟨x, h'.topB, ?_⟩
    cases x with
    | true => rw [if_pos rfl] at hk' ⊢; exact hb p1 C F' H' σs es σ _ ω Q hK hl h'.pop hk' fun y p2 u F2 H2 hk2 h2 => q y p1 u F2 H2 hk2 (ER.sub h2 (.keep ((hs p1 p2).pre es)))
    | false => rw [if_neg Bool.false_ne_true] at hk' ⊢; exact q false p1 _ F' H' hk' (h'.pop.pushSh (.bl _)))
theorem lx_or {fa : (Bool → P1 → Option Ω) → Option Ω} {fb : P1 → (Bool → P2 → Option Ω) → Option Ω} (ha : LX X env a (it eB) e1 fa) (hb : ∀ p1, LX X (e1 p1) (.BoolOp .Or (b :: rest) pos) (it eB) (e2 p1) (fb p1)) (hs : ∀ p1 p2, Sub (e2 p1 p2) (e1 p1)) :
    LX X env (.BoolOp .Or (a :: b :: rest) pos) (it eB) e1 (fun k => fa fun x p1 => if x = true then k true p1 else fb p1 fun y _ => k y p1) :=
  fun C F H σs es σ k ω Q hK hl hr hk q => tE.of X (pe_or (peC X) (peC X)) (ha C F H σs es σ _ ω _ hK hl hr hk fun x p1 v F' H' hk' h' => by
    refine ⟨x, h'.topB, ?_⟩
    cases x with
    | true => rw [if_pos rfl] at hk' ⊢; exact q true p1 _ F' H' hk' (h'.pop.pushSh (.bl _))
    | false => rw [if_neg Bool.false_ne_true] at hk' ⊢; exact hb p1 C F' H' σs es σ _ ω Q hK hl h'.pop hk' fun y p2 u F2 H2 hk2 h2 => q y p1 u F2 H2 hk2 (ER.sub h2 (.keep ((hs p1 p2).pre es))))
theorem lx_not {f : (Bool → P → Option Ω) → Option Ω} (h : LX X env a (it eB) e' f) : LX X env (.UnaryOp .Not a pos) (it eB) e' (fun k => f fun x p => k (!x) p) :=
  fun C F H σs es σ k ω Q hK hl hr hk q => tE.of X (pe_not (peC X)) (h C F H σs es σ _ ω _ hK hl hr hk fun x p v F' H' hk' h' => ⟨x, h'.topB, q _ p _ F' H' hk' (h'.pop.pushSh (.bl _))⟩)
theorem lx_if {fc : (Bool → P1 → Option Ω) → Option Ω} {fa : P1 → (τ → P2 → Option Ω) → Option Ω} {fb : P1 → (τ → P3 → Option Ω) → Option Ω} (hc : LT X env c e1 fc) (ha : ∀ p1, LX X (e1 p1) a S (e2 p1) (fa p1)) (hb : ∀ p1, LX X (e1 p1) b S (e3 p1) (fb p1))
    (hs : ∀ p1 p2, Sub (e2 p1 p2) (e1 p1)) (hs3 : ∀ p1 p3, Sub (e3 p1 p3) (e1 p1)) :
    LX X env (.IfExp c a b pos) S e1 (fun k => fc fun x p1 => if x = true then fa p1 fun y _ => k y p1 else fb p1 fun y _ => k y p1) :=
  fun C F H σs es σ k ω Q hK hl hr hk q => tE.of X (pe_ifExp (ptC X) (peC X) (peC X)) (hc C F H σs es σ _ ω _ hK hl hr hk fun x p1 F' H' hk' h' => by
    cases x with
    | true => rw [if_pos rfl] at hk' ⊢; exact ha p1 C F' H' σs es σ _ ω Q hK hl h' hk' fun y p2 u F2 H2 hk2 h2 => q y p1 u F2 H2 hk2 (ER.sub h2 (.keep ((hs p1 p2).pre es)))
    | false => rw [if_neg Bool.false_ne_true] at hk' ⊢; exact hb p1 C F' H' σs es σ _ ω Q hK hl h' hk' fun y p2 u F2 H2 hk2 h2 => q y p1 u F2 H2 hk2 (ER.sub h2 (.keep ((hs3 p1 p2).pre es))))
end

/-! ### while; stores into own lists -/
section
variable {C : Ck} {F F' H H' : Hp} {σ : List (Option V)} {env : Env} {o : Option V} {τ τ0 : Type} {S : Stor τ} {S0 : Stor τ0} {x : τ} {y : τ0} {v : V} {w : Option V} {i : Nat}
/-- the stack's top goes into the objects of slot i -/
theorem ER.absorb (h : ER C F H (o :: σ) (.st none τ0 S0 y :: env)) (e : env[i]? = some (.st w τ S x)) : ∃ v fp v0 fq, σ[i]? = some (some v) ∧ o = some v0 ∧ S.rel C.K F H fp v x ∧ S0.rel C.K F H fq v0 y ∧ (fp ++ fq).Nodup ∧ (∀ a ∈ fp ++ fq, C.B a = none ∧ F a = none ∧ H a ≠ none) ∧
    ∀ (τ' : Type) (S' : Stor τ') (x' : τ') (H' : Hp) (fp' : List Addr), (∀ a, a ∉ fp ++ fq → H a ≠ none → H' a = H a) → (∀ a, H a ≠ none → H' a ≠ none) → S'.rel C.K F H' fp' v x' → fp'.Nodup → (∀ a ∈ fp', H' a ≠ none ∧ (a ∈ fp ++ fq ∨ H a = none)) → ER C F H' σ (env.set i (.st w τ' S' x')) := by
  obtain ⟨fp, q⟩ := h.sl
  obtain ⟨hi, _⟩ := List.getElem?_eq_some_iff.mp e
  obtain ⟨v, e1, r, k⟩ := q.ok (i + 1) _ (by simpa using e)
  obtain ⟨v0, e0, r0, k0⟩ := q.ok 0 _ rfl
  have e1' : σ[i]? = some (some v) := by
    simp at e1
    cases z : σ[i]? with
    | none => rw [z] at e1; cases e1
    | some o => rw [z] at e1; exact congrArg some e1
  have e0' : o = some v0 := by simpa using e0
  have hi1 : i + 1 < (Slot.st none τ0 S0 y :: env).length := by simpa using hi
  have h00 : 0 < (Slot.st none τ0 S0 y :: env).length := by simp
  have ownu : ∀ a ∈ fp (i + 1) ++ fp 0, C.B a = none ∧ F a = none ∧ H a ≠ none := fun a m => by
    rcases List.mem_append.mp m with m | m
    · exact q.own (i + 1) hi1 a m
    · exact q.own 0 h00 a m
  have ndu : (fp (i + 1) ++ fp 0).Nodup := by
    rw [List.nodup_append]
    refine ⟨q.nd (i + 1) hi1, q.nd 0 h00, fun a ha b hb z => ?_⟩
    subst z
    have := q.sep (i + 1) 0 hi1 h00 a ha hb
    omega
  refine ⟨v, fp (i + 1), v0, fp 0, e1', e0', r, r0, ndu, ownu, fun τ' S' x' H' fp' hk hs r' nd' sub => ?_⟩
  have hp := h.pop
  have bne : ∀ a, C.B a ≠ none → a ∉ fp (i + 1) ++ fp 0 := fun a m z => m (ownu a z).1
  have notu : ∀ j, j < env.length → j ≠ i → ∀ a ∈ fp (j + 1), a ∉ fp (i + 1) ++ fp 0 := fun j hj ne a ha z => by
    have hj1 : j + 1 < (Slot.st none τ0 S0 y :: env).length := by simpa using hj
    rcases List.mem_append.mp z with z | z
    · have := q.sep (j + 1) (i + 1) hj1 hi1 a ha z; omega
    · have := q.sep (j + 1) 0 hj1 h00 a ha z; omega
  refine ⟨fun a o m => ?_, fun a o m => ?_, h.gr, fun a m => hs a (h.up a m), by simp [hp.len], fun j => if j = i then fp' else fp (j + 1), fun j s' ej => ?_, fun j hj a ha => ?_, fun j l hj hl a ha hb => ?_, fun j hj => ?_⟩
  · have m' : C.B a ≠ none := by rw [m]; exact fun z => by cases z
    rw [hk a (bne a m') (same_some h.sB m')]; exact h.sB a o m
  · have m' : F a ≠ none := by rw [m]; exact fun z => by cases z
    rw [hk a (fun z => m' (ownu a z).2.1) (same_some h.sF m')]; exact h.sF a o m
  · by_cases z : j = i
    · subst z
      rw [List.getElem?_set_self hi] at ej
      cases ej
      refine ⟨v, by rw [e1']; rfl, ?_, ?_⟩
      · simpa using r'
      · simp only [if_pos]
        cases w with
        | none =>
          intro a ha
          rcases (sub a ha).2 with m | m
          · rcases List.mem_append.mp m with m | m
            · exact k a m
            · exact k0 a m
          · exact h.hnone m
        | some w0 =>
          refine ⟨k.1, fun a ha => ?_⟩
          rcases (sub a ha).2 with m | m
          · rcases List.mem_append.mp m with m | m
            · exact k.2 a m
            · exact .inl (k0 a m)
          · exact .inl (h.hnone m)
    · rw [List.getElem?_set_ne (fun y => z y.symm)] at ej
      have hj : j < env.length := (List.getElem?_eq_some_iff.mp ej).1
      simp only [if_neg z]
      have := q.ok (j + 1) s' (by simpa using ej)
      simp only [List.getElem?_cons_succ] at this
      refine this.go (fun _ _ y => y) (fun a m => hk a (bne a m) (same_some h.sB m)) fun a ha => ?_
      exact hk a (notu j hj z a ha) (q.own (j + 1) (by simpa using hj) a ha).2.2
  · have hj' : j < env.length := by simpa using hj
    by_cases z : j = i
    · subst z
      simp only [if_pos] at ha
      obtain ⟨m1, m⟩ := sub a ha
      rcases m with m | m
      · exact ⟨(ownu a m).1, (ownu a m).2.1, m1⟩
      · exact ⟨h.bnone m, h.fnone m, m1⟩
    · simp only [if_neg z] at ha
      obtain ⟨b, f, c⟩ := q.own (j + 1) (by simpa using hj') a ha
      exact ⟨b, f, hs a c⟩
  · have hj' : j < env.length := by simpa using hj
    have hl' : l < env.length := by simpa using hl
    by_cases zj : j = i
    · by_cases zl : l = i
      · rw [zj, zl]
      · simp only [if_pos zj] at ha
        simp only [if_neg zl] at hb
        rcases (sub a ha).2 with m | m
        · exact absurd m (notu l hl' zl a hb)
        · exact absurd m (q.own (l + 1) (by simpa using hl') a hb).2.2
    · simp only [if_neg zj] at ha
      by_cases zl : l = i
      · simp only [if_pos zl] at hb
        rcases (sub a hb).2 with m | m
        · exact absurd m (notu j hj' zj a ha)
        · exact absurd m (q.own (j + 1) (by simpa using hj') a ha).2.2
      · simp only [if_neg zl] at hb
        have := q.sep (j + 1) (l + 1) (by simpa using hj') (by simpa using hl') a ha hb
        omega
  · have hj' : j < env.length := by simpa using hj
    by_cases z : j = i
    · simp only [if_pos z]; exact nd'
    · simp only [if_neg z]; exact q.nd (j + 1) (by simpa using hj')
theorem RelAll.app {α : Type} {R : List Addr → V → α → Prop} : ∀ {fp : List Addr} {vs : List V} {xs : List α} {fq : List Addr} {v : V} {x : α}, RelAll R fp vs xs → R fq v x → RelAll R (fp ++ fq) (vs ++ [v]) (xs ++ [x])
  | _, _, _, fq, v, x, .nil, h => by simpa using RelAll.cons h .nil
  | _, _, _, fq, v, x, .cons h r, q => by
    rw [List.append_assoc]
    exact .cons h (r.app q)
theorem RelAll.length {α : Type} {R : List Addr → V → α → Prop} : ∀ {fp : List Addr} {vs : List V} {xs : List α}, RelAll R fp vs xs → vs.length = xs.length
  | _, _, _, .nil => rfl
  | _, _, _, .cons _ r => congrArg (· + 1) r.length
end
def SZ : Nat := 16777216
theorem SZ_eq : sizeLine = SZ := sizeLine_eq
section
variable {X : Cx} {R I Ω : Type} {SR : Stor R} {envR : I → Env} {kr : R → I → Option Ω} {bk ct : Lp Ω} {env : Env} {nm : Str} {pos : Pos} {c e tg iter : Expr} {sts sa sb rest : List Stmt} {P P1 P2 A : Type} {τ α : Type} {S : Stor τ} {Sa : Stor α} {e' : P → Env} {ix : List Nat} {J J1 : Type} {envJ : J → Env} {env1 : J1 → Env}
/-- a while, with fuel n -/
theorem lb_while {T Pt : Type} {envT : T → Env} {eT : T → Pt → Env} {fc : T → (Bool → Pt → Option Ω) → Option Ω} {fb : T → Pt → (T → Option Ω) → (T → Option Ω) → (T → Option Ω) → Option Ω} {fr : T → (J → Option Ω) → Option Ω} (n : Nat)
    (hp : PassesOwn (model X.prog X.w) X.A X.env X.xe) (t0 : T) (h0 : Sub env (envT t0)) (hc : ∀ t, LT X (envT t) c (eT t) (fc t)) (hx : ∀ t p, Sub (eT t p) (envT t))
    (hb : ∀ t p kc kb, LB X SR envR kr ⟨T, envT, kb⟩ ⟨T, envT, kc⟩ (eT t p) sts envT (fun kn => fb t p kn kc kb)) (hr : ∀ t, LB X SR envR kr bk ct (envT t) rest envJ (fr t)) :
    LB X SR envR kr bk ct env (.While c sts [] pos :: rest) envJ (fun kn => whileO n t0 fun t kc => fc t fun b p => if b = true then fb t p kc kc fun t' => fr t' kn else fr t kn) :=
  fun C F H σs es σ kn ω D hK hl h hk qn qb qc qr => tSs.of X (pss_cons (ps_while hp (ptC X) (pssC X)) (pssC X)) (by
    have out : ∀ t F2 H2 σ2, fr t kn = some ω → ER C F2 H2 (σs ++ σ2) (es ++ envT t) → tSs X rest D σ2 H2 := fun t F2 H2 σ2 hk2 h2 =>
      hr t C F2 H2 σs es σ2 kn ω D hK hl h2 hk2 qn qb qc qr
    refine ⟨fun m σ2 H2 => ∃ t F2, ER C F2 H2 (σs ++ σ2) (es ++ envT t) ∧ whileO m t (fun t kc => fc t fun b p => if b = true then fb t p kc kc fun t' => fr t' kn else fr t kn) = some ω, ⟨n, t0, F, h.subF h0, hk⟩, ?_⟩
    rintro m σ2 H2 ⟨t, F2, h2, hk2⟩
    cases m with
    | zero => cases hk2
    | succ m =>
      refine hc t C F2 H2 σs es σ2 _ ω _ hK hl h2 hk2 fun b p F3 H3 hk3 h3 => ?_
      cases b with
      | true =>
        rw [if_pos rfl] at hk3 ⊢
        refine ⟨fun σ4 H4 => ∃ t F4, ER C F4 H4 (σs ++ σ4) (es ++ envT t) ∧ whileO m t (fun t kc => fc t fun b p => if b = true then fb t p kc kc fun t' => fr t' kn else fr t kn) = some ω, fun σ4 H4 ⟨t4, F4, h4, hk4⟩ => ⟨m, Nat.lt_succ_self m, t4, F4, h4, hk4⟩, ?_⟩
        refine hb t p (fun s' => whileO m s' fun t kc => fc t fun b p => if b = true then fb t p kc kc fun t' => fr t' kn else fr t kn) (fun t' => fr t' kn) C F3 H3 σs es σ2 _ ω _ hK hl h3 hk3 ?_ ?_ ?_ ?_
        · intro t5 F5 H5 σ5 hk5 h5; exact ⟨t5, F5, h5, hk5⟩
        · intro t5 F5 H5 σ5 hk5 h5; exact out t5 F5 H5 σ5 hk5 h5
        · intro t5 F5 H5 σ5 hk5 h5; exact ⟨t5, F5, h5, hk5⟩
        · intro a5 i5 v5 F5 H5 σ5 hk5 h5; exact qr a5 i5 v5 F5 H5 σ5 hk5 h5
      | false =>
        rw [if_neg Bool.false_ne_true] at hk3 ⊢
        exact out t F3 H3 σ2 hk3 (h3.subF (hx t p)))
/-- x.append(e), x a list of one's own -/
theorem lb_app {f : (α → P → Option Ω) → Option Ω} {fr : α → P → (J → Option Ω) → Option Ω} {w : Option V} {x0 : List α} {xs : P → List α} {ap cp np : Pos} (i : Nat) (h0 : env[i]? = some (.st w (List α) (ls Sa) x0))
    (he : LX X env e Sa e' f) (h1 : ∀ p, (e' p)[i]? = some (.st w (List α) (ls Sa) (xs p))) (hr : ∀ y p, LB X SR envR kr bk ct ((e' p).set i (.st w (List α) (ls Sa) (xs p ++ [y]))) rest envJ (fr y p))
    (hN : X.N[i]? = some nm := by rfl) (hv : Vis X.env.scope nm := by first | exact Or.inl rfl | exact Or.inr (Or.inl rfl) | exact Or.inr (Or.inr rfl))
    (hd : (nm == ("__debug__" : Str)) = false := by decide) (hcd : (nm == ("__classdict__" : Str)) = false := by decide)
    (hbase : attributeBase (.Name nm np) "append" X.env (eval (.Name nm np) X.env) = eval (.Name nm np) X.env := by rfl)
    (hfew : ((backTo cp (starEach [e] X.env)).all (fun x => !x.1) && (backToKw cp (keywordEach [] X.env)).all (fun x => x.1.isSome) && decide ([e].length + ([] : List Keyword).length + (if ([] : List Keyword).isEmpty then 0 else 1) < 30)) = true := by rfl)
    (hline : (ap.endLine == cp.line) = true := by rfl) (hse : starEach [e] X.env = (false, eval e X.env) :: starEach [] X.env := by rfl) (hplain : (backTo cp (starEach [] X.env)).any (·.1) = false := by rfl)
    (hsw : swapsWith (.Call (.Attribute (.Name nm np) "append" ap) [e] [] cp) none pos.line X.env = pure false := by rfl) :
    LB X SR envR kr bk ct env (.Expr (.Call (.Attribute (.Name nm np) "append" ap) [e] [] cp) pos :: rest) envJ (fun kn => f fun y p => ck (decide ((xs p).length < SZ)) (fr y p kn)) :=
  fun C F H σs es σ kn ω D hK hl h hk qn qb qc qr => tSs.of X (pss_cons (ps_expr (pe_bm PySem.F.plainAttrs_list PySem.F.slot_list_append PySem.F.type_list_append mt_append (pe_var hN hv hd hcd) (pa_cons (peC X) pa_nil hse) hbase hfew hline hse hplain) hsw) (pssC X)) (by
    obtain ⟨l, fp, e1, r⟩ := h.lookF hl h0
    obtain ⟨q0, vs0, fps0, rfl, hq0, _, _⟩ := r
    refine ⟨_, e1, .inl ⟨rfl, vs0, SqL.of hq0⟩, he C F H σs es σ _ ω _ hK hl h hk fun y p v F' H' hk' h' => ?_⟩
    obtain ⟨hc, hk'⟩ := ck_some hk'
    obtain ⟨v', fp', v0, fq, e2, e3, r1, r2, nd, ow, fin⟩ := h'.absorb (i := es.length + i) (by rw [at_app _ rfl]; exact h1 p)
    rw [at_app _ hl, e1] at e2
    cases e2; cases e3
    obtain ⟨q1, vs, fps, e4, hq, ra, rfl⟩ := r1
    cases e4
    have hlen := ra.length
    have hc' := of_decide_eq_true hc
    refine ⟨_, vs, _, rfl, rfl, hq, by rw [SZ_eq]; omega, ?_⟩
    have fin' := fin (List α) (ls Sa) (xs p ++ [y]) (upd H' q0 (.lst (vs ++ [v]))) (q0 :: (fps ++ fq)) (fun a na _ => upd_ne fun z => na (by rw [z]; simp)) (fun a m => ?_) ?_ (by simpa using nd) (fun a m => ?_)
    · rw [List.set_append_right _ _ (Nat.le_add_right _ _), Nat.add_sub_cancel_left] at fin'
      exact hr y p C F' _ σs es σ kn ω D hK hl fin' hk' qn qb qc qr
    · by_cases z : a = q0
      · subst z; rw [upd_same]; exact fun z => by cases z
      · rw [upd_ne z]; exact m
    · have nm : q0 ∉ fps ++ fq := by
        have : (q0 :: (fps ++ fq)).Nodup := by simpa using nd
        exact (List.nodup_cons.mp this).1
      refine ⟨q0, vs ++ [v], fps ++ fq, rfl, upd_same, RelAll.imp (fun fr' v' x' s q => Sa.frame (fun a m => upd_ne fun z => nm (z ▸ s a m)) q) (ra.app r2), rfl⟩
    · refine ⟨?_, .inl (by simpa using m)⟩
      by_cases z : a = q0
      · subst z; rw [upd_same]; exact fun z => by cases z
      · rw [upd_ne z]; exact (ow a (by simpa using m)).2.2)
/-- x[j] = e, x a list of one's own whose items are shared -/
theorem lb_setix {E : Enc α} {f : (α → P1 → Option Ω) → Option Ω} {f2 : α → P1 → (Int → P2 → Option Ω) → Option Ω} {fr : α → P1 → Int → P2 → List α → (J → Option Ω) → Option Ω} {e1 : P1 → Env} {e2 : α → P1 → P2 → Env} {w : Option V} {x1 : P1 → List α} {xs : α → P1 → P2 → List α} {ie : Expr} {np sp : Pos} (i : Nat)
    (he : LX X env e (it E) e1 f) (h1 : ∀ p, (e1 p)[i]? = some (.st w (List α) (ls (it E)) (x1 p))) (hi : ∀ y p, LX X (e1 p) ie (it eI) (e2 y p) (f2 y p)) (h2 : ∀ y p p2, (e2 y p p2)[i]? = some (.st w (List α) (ls (it E)) (xs y p p2)))
    (hr : ∀ y p j p2 zs, LB X SR envR kr bk ct ((e2 y p p2).set i (.st w (List α) (ls (it E)) zs)) rest envJ (fr y p j p2 zs))
    (hN : X.N[i]? = some nm := by rfl) (hv : Vis X.env.scope nm := by first | exact Or.inl rfl | exact Or.inr (Or.inl rfl) | exact Or.inr (Or.inr rfl))
    (hd : (nm == ("__debug__" : Str)) = false := by decide) (hcd : (nm == ("__classdict__" : Str)) = false := by decide)
    (ha : ∀ v, assign (.Subscript (.Name nm np) ie sp) X.env v = (do
      let ov ← holding [v] (eval (.Name nm np) X.env)
      let iv ← holding [v, ov] (eval ie X.env)
      standAt sp
      holding [v, ov, iv] (setItem ov iv v)
      release [v, ov, iv] []) := by intro _; rfl)
    (hs : swapsWithSole [.Subscript (.Name nm np) ie sp] e pos.line X.env = pure false := by rfl) (hw : swappedStores [.Subscript (.Name nm np) ie sp] e X.env = pure none := by rfl) (ha1 : (assignEach [.Subscript (.Name nm np) ie sp] X.env).map (·.2) = [assign (.Subscript (.Name nm np) ie sp) X.env] := by rfl) :
    LB X SR envR kr bk ct env (.Assign [.Subscript (.Name nm np) ie sp] e pos :: rest) envJ (fun kn => f fun y p => f2 y p fun j p2 => (ixN (xs y p p2).length j).bind fun n => fr y p j p2 ((xs y p p2).set n y) kn) :=
  fun C F H σs es σ kn ω D hK hl h hk qn qb qc qr => tSs.of X (pss_cons (ps_asg (peC X) (pg_sub (pe_var hN hv hd hcd) (peC X) set_list ha) hs hw ha1) (pssC X)) (he C F H σs es σ _ ω _ hK hl h hk fun y p v F' H' hk' h' => by
    obtain ⟨l, fp, e3, r⟩ := h'.pop.lookF hl (h1 p)
    refine ⟨l, e3, hi y p C F' H' (some v :: σs) (.st none α (it E) y :: es) σ _ ω _ hK (by simp [hl]) h' hk' fun j p2 u F2 H2 hk2 h3 => ?_⟩
    obtain ⟨n, hn, hk2⟩ := bind_some hk2
    have hu : u = .int j := by
      obtain ⟨v', fp, e1, r⟩ := h3.look (i := 0) rfl
      simp at e1; subst e1
      obtain ⟨_, r⟩ := r
      cases r; rfl
    subst hu
    have hv' : Rep C.K F2 v (E.enc y) := by
      obtain ⟨v', fp, e1, r⟩ := h3.look (i := 1) rfl
      simp at e1; subst e1
      exact r.2
    have h4 : ER C F2 H2 (σs ++ σ) (es ++ e2 y p p2) := h3.pop.pop
    obtain ⟨l', fp', e4, r1, nd, ow, fin⟩ := h4.mut (i := es.length + i) (by rw [at_app _ rfl]; exact h2 y p p2)
    rw [at_app _ hl, e3] at e4
    cases e4
    obtain ⟨q1, vs, fps, rfl, hq, ra, rfl⟩ := r1
    obtain ⟨rfl, rp⟩ := ra.zero
    have hlen : vs.length = (xs y p p2).length := by have := rp.length; simpa using this
    refine ⟨q1, vs, j, n, rfl, rfl, hq, by rw [hlen]; exact hn, ?_⟩
    have fin' := fin (List α) (ls (it E)) ((xs y p p2).set n y) (upd H2 q1 (.lst (vs.set n v))) [q1] (fun a na _ => upd_ne fun z => na (by rw [z]; simp)) (fun a m => ?_) ⟨q1, vs.set n v, [], rfl, upd_same, ?_, rfl⟩ (by simp) (fun a m => ?_)
    · rw [List.set_append_right _ _ (Nat.le_add_right _ _), Nat.add_sub_cancel_left] at fin'
      exact hr y p j p2 _ C F2 _ σs es σ kn ω D hK hl fin' hk2 qn qb qc qr
    · by_cases z : a = q1
      · subst z; rw [upd_same]; exact fun z => by cases z
      · rw [upd_ne z]; exact m
    · have := rp.set hv' (i := n)
      rw [← List.map_set] at this
      exact this.zero
    · simp at m; subst m
      exact ⟨by rw [upd_same]; exact (fun z => by cases z), .inl (by simp)⟩)
end
end Z

set_option Elab.async false
set_option linter.all false
set_option maxRecDepth 100000
namespace Z
open PySem PySem.Spec PyProof.Rows L2

/-! ### calls of defs -/
/-- slots that own nothing -/
inductive ShE : Env → Prop
  | nil : ShE []
  | cons {τ : Type} {S : Stor τ} {x : τ} {en : Env} : Cp S → ShE en → ShE (.st none τ S x :: en)
theorem ShE.slot : ∀ {en : Env}, ShE en → ∀ (i : Nat) (s : Slot), en[i]? = some s → ∃ (τ : Type) (S : Stor τ) (x : τ), s = Slot.st none τ S x ∧ Cp S
  | _, .nil, i, s, e => by simp at e
  | _, .cons cp r, 0, s, e => ⟨_, _, _, by simp at e; exact e.symm, cp⟩
  | _, .cons cp r, i + 1, s, e => r.slot i s (by simpa using e)
section
variable {C : Ck} {F F' H H' : Hp} {σ : List (Option V)} {env : Env} {o : Option V} {τ τ0 R : Type} {S : Stor τ} {S0 : Stor τ0} {SR : Stor R} {x : τ} {y : τ0} {v : V} {w : Option V} {i : Nat} {r : R}
theorem lt_of_get {α : Type _} {l : List α} {i : Nat} {a : α} (h : l[i]? = some a) : i < l.length := (List.getElem?_eq_some_iff.mp h).1
/-- into a def: its arguments are shared -/
theorem ER.enter {σa : List (Option V)} {ea : Env} (h : ER C F H (σa ++ σ) (ea ++ env)) (hl : σa.length = ea.length) (sh : ShE ea) : ER ⟨C.K, H, F, H, []⟩ F H σa ea := by
  obtain ⟨fp, q⟩ := h.sl
  refine ⟨fun _ _ e => e, h.sF, fun a m => .inl m, fun a m => m, hl, fun _ => [], fun j s e => ?_, fun j hj a ha => (nomatch ha), fun j l _ _ a ha => (nomatch ha), fun j _ => List.nodup_nil⟩
  have hj := lt_of_get e
  obtain ⟨τ, S, x, rfl, cp⟩ := sh.slot j s e
  obtain ⟨v, e1, r, _⟩ := q.ok j _ (by rw [List.getElem?_append_left hj]; exact e)
  rw [List.getElem?_append_left (by omega)] at e1
  have z := cp.nil r
  rw [z] at r
  exact ⟨v, e1, r, fun _ m => nomatch m⟩
def hun (F G : Hp) : Hp := fun a => match F a with
  | some o => some o
  | none => G a
theorem same_hunL : Same F (hun F F') := fun a o e => by unfold hun; rw [e]
theorem same_hunR (s : Same F H) (s' : Same F' H) : Same F' (hun F F') := fun a o e => by
  unfold hun
  cases q : F a with
  | none => exact e
  | some u =>
    have h1 := s a u q
    have h2 := s' a o e
    rw [h1] at h2
    exact h2
theorem hun_same (s : Same F H) (s' : Same F' H) : Same (hun F F') H := fun a o e => by
  unfold hun at e
  cases q : F a with
  | none => rw [q] at e; exact s' a o e
  | some u' =>
    rw [q] at e
    have e' : u' = o := Option.some.inj e
    rw [← e']
    exact s a u' q
theorem hun_some {a : Addr} (h : hun F F' a ≠ none) : F a ≠ none ∨ F' a ≠ none := by
  unfold hun at h
  cases q : F a with
  | none => rw [q] at h; exact .inr h
  | some u => exact .inl (by intro z; cases z)
theorem hun_none {a : Addr} (h : F a = none) (h' : F' a = none) : hun F F' a = none := by
  unfold hun; rw [h]; exact h'
/-- out of it -/
theorem ER.back (h : ER C F H σ env) (hc : ER ⟨C.K, H, F, H, []⟩ F' H' [some v] [.st none R SR r]) : ∃ F'', ER C F'' H' (some v :: σ) (.st none R SR r :: env) := by
  have sFH : Same F H' := fun a o e => hc.sB a o (h.sF a o e)
  have nw : ∀ a, hun F F' a ≠ none → F a ≠ none ∨ H a = none := fun a m => by
    rcases hun_some m with z | z
    · exact .inl z
    · exact hc.gr a z
  have h2 := h.grow (F' := hun F F') (H' := H') hc.sB same_hunL (hun_same sFH hc.sF) nw
  obtain ⟨fp, q⟩ := h.sl
  have q2 := q.grow h hc.sB (F' := hun F F') same_hunL nw
  obtain ⟨fq, qc⟩ := hc.sl
  obtain ⟨v', e1, rr, ne⟩ := qc.ok 0 _ rfl
  simp at e1; subst e1
  refine ⟨hun F F', h2.sB, h2.sF, h2.gr, h2.up, by simp [h2.len], _, q2.push (fq := fq 0) ⟨v, rfl, SR.monoF (same_hunR sFH hc.sF) rr, fun a m => h.hnone (ne a m)⟩ (fun a m => ?_) (qc.nd 0 (by simp)) fun j hj a ha m => ?_⟩
  · obtain ⟨b, f, c⟩ := qc.own 0 (by simp) a m
    exact ⟨h.bnone b, hun_none (h.fnone b) f, c⟩
  · exact (q.own j hj a ha).2.2 (ne a m)
/-- the promise of a def over shared arguments -/
def spP (K : Fg) {A R : Type} (sl : A → Env) (SR : Stor R) (m : A → Option R) : Sp := fun vs H Q _ => ∃ (B F : Hp) (a : A) (r : R), m a = some r ∧ (vs.map some).length = (sl a).length ∧ ER ⟨K, B, F, H, []⟩ F H (vs.map some) (sl a) ∧
  ∀ F' H' v, ER ⟨K, B, F, H, []⟩ F' H' [some v] [.st none R SR r] → Q v H'
/-- .. that changes its first argument -/
def spI (K : Fg) {A T R : Type} (ST : Stor T) (sl : A → Env) (SR : Stor R) (m : T → A → Option (R × T)) : Sp := fun vs H Q _ => ∃ (B F : Hp) (io : List Addr) (t : T) (a : A) (r : R) (t' : T) (v0 : V) (vs' : List V), vs = v0 :: vs' ∧ m t a = some (r, t') ∧ (vs'.map some).length = (sl a).length ∧
  ER ⟨K, B, F, H, io⟩ F H (vs.map some) (.st (some v0) T ST t :: sl a) ∧ ∀ F' H' v, ER ⟨K, B, F, H, io⟩ F' H' [some v, some v0] [.st none R SR r, .st (some v0) T ST t'] → Q v H'
theorem ER.head {s : Slot} (h : ER C F H (o :: σ) (s :: env)) : ER C F H [o] [s] :=
  h.perm rfl id fun j s' e => by
    cases j with
    | zero => exact .inr ⟨by simpa using e, rfl, fun l _ el _ z => by simpa using z⟩
    | succ j => simp at e
theorem ER.head2 {o2 : Option V} {s s2 : Slot} (h : ER C F H (o :: o2 :: σ) (s :: s2 :: env)) : ER C F H [o, o2] [s, s2] :=
  h.perm rfl id fun j s' e => by
    match j, e with
    | 0, e => exact .inr ⟨by simpa using e, rfl, fun l _ el _ z => by simpa using z⟩
    | 1, e => exact .inr ⟨by simpa using e, rfl, fun l _ el _ z => by simpa using z⟩
    | j + 2, e => simp at e
theorem ER.padR (h : ER C F H σ env) : ∀ n : Nat, ER C F H (σ ++ List.replicate n none) (env ++ List.replicate n .un) := fun n =>
  h.perm (by simp [h.len]) id fun j s' e => by
    by_cases z : j < env.length
    · rw [List.getElem?_append_left z] at e
      exact .inr ⟨e, by rw [List.getElem?_append_left (by rw [h.len]; exact z)]; rfl, fun l _ _ _ y => y⟩
    · rw [List.getElem?_append_right (by omega), List.getElem?_replicate] at e
      split at e
      · exact .inl (Option.some.inj e).symm
      · cases e
end

section
variable {P : Program} {w : World} {K : Fg} {mg : Str → Option Value} {base : Heap}
/-- THE RULE for a def over shared arguments: its body walked -/
theorem fnP {x qual : Str} {st : Stmt} {f : Addr} {fd : FuncData} {N ps : List Str} {k : Nat} {A R : Type} {sl : A → Env} {SR : Stor R} {m : A → Option R} (F : Fun K x qual st f fd) (S : FnScope N ps (defScope st)) (n : Nat) (hn : N.length - ps.length = n) (hl : ∀ a, (sl a).length = ps.length)
    (hb : ∀ (cdv : Value) (A' : Around) (outer : List PySem.Env) (s : Shared) (H : Hp) (E : XK), Room k (A'.deeper (envOfC qual (defScope st) s.heap.objs.size f cdv)) → ∀ a : A,
      LB (cxOf CX0 P w K mg base N qual (defScope st) f cdv A' outer s H E).nox SR (fun _ : Unit => List.replicate (ps.length + n) .un) (fun (r : R) (_ : Unit) => some r) (noLp R) (noLp R) (sl a ++ List.replicate n .un) (defBody st) (fun z : Empty => z.elim) (fun _ => m a)) :
    FnOk P w K mg base CX0 (k + 1) f fd ps (spP K sl SR m) := by
  have hlen : ∀ vs H Q E, spP K sl SR m vs H Q E → vs.length = ps.length := fun vs H Q E h => by
    obtain ⟨B, F0, a, r, _, h2, _⟩ := h
    rw [List.length_map] at h2; rw [h2, hl a]
  refine F.ok S hlen fun cdv A' outer s H vs Q E hr h => ?_
  have hlv := hlen vs H Q E h
  obtain ⟨B, F0, a, r, hm, _, her, q⟩ := h
  refine ⟨_, pssC _, ?_⟩
  have hst : L2.start N vs = vs.map some ++ List.replicate n none := by unfold L2.start; rw [hlv, hn]
  rw [hst]
  refine hb cdv A' outer s H E hr a ⟨K, B, F0, H, []⟩ F0 H [] [] _ (fun z => z.elim) r { nx := fun _ H' => Q .non H', rt := Q } rfl rfl (her.padR n) hm (fun z => z.elim) (fun z => z.elim) (fun z => z.elim) ?_
  intro a' i v F' H' σ' e h'
  cases e
  exact q F' H' v h'.head
/-- .. that changes its first argument -/
theorem fnI {x qual : Str} {st : Stmt} {f : Addr} {fd : FuncData} {N ps : List Str} {k : Nat} {A T R : Type} {ST : Stor T} {sl : A → Env} {SR : Stor R} {m : T → A → Option (R × T)} (F : Fun K x qual st f fd) (S : FnScope N ps (defScope st)) (n : Nat) (hn : N.length - ps.length = n) (hl : ∀ a, (sl a).length + 1 = ps.length)
    (hb : ∀ (cdv : Value) (A' : Around) (outer : List PySem.Env) (s : Shared) (H : Hp) (E : XK), Room k (A'.deeper (envOfC qual (defScope st) s.heap.objs.size f cdv)) → ∀ (v0 : V) (t : T) (a : A),
      LB (cxOf CX0 P w K mg base N qual (defScope st) f cdv A' outer s H E).nox SR (fun t' : T => .st (some v0) T ST t' :: List.replicate (N.length - 1) .un) (fun (r : R) (t' : T) => some (r, t')) (noLp (R × T)) (noLp (R × T)) (.st (some v0) T ST t :: (sl a ++ List.replicate n .un)) (defBody st) (fun z : Empty => z.elim) (fun _ => m t a)) :
    FnOk P w K mg base CX0 (k + 1) f fd ps (spI K ST sl SR m) := by
  have hlen : ∀ vs H Q E, spI K ST sl SR m vs H Q E → vs.length = ps.length := fun vs H Q E h => by
    obtain ⟨B, F0, io, t, a, r, t', v0, vs', rfl, _, h2, _⟩ := h
    rw [List.length_map] at h2; rw [List.length_cons, h2, hl a]
  refine F.ok S hlen fun cdv A' outer s H vs Q E hr h => ?_
  have hlv := hlen vs H Q E h
  obtain ⟨B, F0, io, t, a, r, t', v0, vs', rfl, hm, _, her, q⟩ := h
  refine ⟨_, pssC _, ?_⟩
  have hst : L2.start N (v0 :: vs') = (v0 :: vs').map some ++ List.replicate n none := by unfold L2.start; rw [hlv, hn]
  rw [hst]
  refine hb cdv A' outer s H E hr v0 t a ⟨K, B, F0, H, io⟩ F0 H [] [] _ (fun z => z.elim) (r, t') { nx := fun _ H' => Q .non H', rt := Q } rfl rfl (her.padR n) hm (fun z => z.elim) (fun z => z.elim) (fun z => z.elim) ?_
  intro a' i v F' H' σ' e h'
  cases e
  have hls : σ'.length = N.length - 1 + 1 := by have := h'.len; simpa using this
  cases σ' with
  | nil => simp at hls
  | cons o σ' =>
    have h3 : ER ⟨K, B, F0, H, io⟩ F' H' (some v :: o :: σ') (.st none R SR r :: .st (some v0) T ST t' :: List.replicate (N.length - 1) .un) := h'
    have ho : o = some v0 := by
      obtain ⟨fp, qq⟩ := h3.sl
      obtain ⟨v', e1, _, e2⟩ := qq.ok 1 _ rfl
      simp at e1
      rw [e1, e2.1]
    subst ho
    exact q F' H' v h3.head2
end
section
variable {X : Cx} {Ω : Type} {env : Env} {nm : Str} {pos np : Pos} {e : Expr} {xs : List Expr} {Pt A R T : Type} {SR : Stor R} {ST : Stor T} {e' : Pt → Env} {sl : A → Env} {k : Nat} {f : Addr} {fd : FuncData} {ps : List Str}
/-- f(..) -/
theorem lx_call {m : A → Option R} {fa : (A → Pt → Option Ω) → Option Ω} (Fn : FnOk X.prog X.w X.K X.mg X.base CX0 k f fd ps (spP X.K sl SR m)) (hr : Room k X.A) (hm : X.mg nm = some (.ref f)) (hk : PySem.W.keepIn X.K (.ref f) = true) (hb : Binds X.K fd ps []) (sh : ∀ a, ShE (sl a))
    (ha : LA X env (e :: xs) sl e' fa) (hg : Gl X nm := by rfl) (hdb : (nm == ("__debug__" : Str)) = false := by decide) (he : starEach (e :: xs) X.env = (false, eval e X.env) :: starEach xs X.env := by rfl) (hpl : (backTo pos (starEach xs X.env)).any (·.1) = false := by rfl) :
    LX X env (.Call (.Name nm np) (e :: xs) [] pos) SR e' (fun k => fa fun a p => (m a).bind fun r => k r p) :=
  fun C F H σs es σ k ω Q hK hl h hk' q => tE.of X (pe_call Fn hr hg hm hk hb .nil pass0 (paC X) hdb he hpl) (ha C F H σs es σ _ ω _ hK hl h hk' fun a p vs F' H' hk2 hlv h' => by
    obtain ⟨r, hm', hk2⟩ := bind_some hk2
    show spP X.K sl SR m (vs ++ []) H' Q _
    rw [List.append_nil, ← hK]
    exact ⟨H', F', a, r, hm', hlv, h'.enter hlv (sh a), fun F2 H2 v h2 => by
      obtain ⟨F3, h3⟩ := (h'.popN hlv).back h2
      exact q r p v F3 H2 hk2 h3⟩)
theorem lx_call0 {m : Unit → Option R} (Fn : FnOk X.prog X.w X.K X.mg X.base CX0 k f fd ps (spP X.K (fun _ : Unit => []) SR m)) (hr : Room k X.A) (hm : X.mg nm = some (.ref f)) (hk : PySem.W.keepIn X.K (.ref f) = true) (hb : Binds X.K fd ps [])
    (hg : Gl X nm := by rfl) (hdb : (nm == ("__debug__" : Str)) = false := by decide) :
    LX X env (.Call (.Name nm np) [] [] pos) SR (fun _ : Unit => env) (fun (k : R → Unit → Option Ω) => (m ()).bind fun r => k r ()) :=
  fun C F H σs es σ k ω Q hK hl h hk' q => tE.of X (pe_call0 Fn hr hg hm hk hb .nil pass0 hdb) (by
    obtain ⟨r, hm', hk2⟩ := bind_some hk'
    show spP X.K _ SR m [] H Q E0
    rw [← hK]
    refine ⟨H, F, (), r, hm', rfl, ER.enter (σa := []) (ea := []) h rfl .nil, fun F2 H2 v h2 => ?_⟩
    obtain ⟨F3, h3⟩ := h.back h2
    exact q r () v F3 H2 hk2 h3)
/-- into a def that changes the object of slot i -/
theorem ER.enterI {C : Ck} {F H : Hp} {σ : List (Option V)} {env : Env} {w : Option V} {t : T} {v0 : V} {i : Nat} {σa : List (Option V)} {ea : Env} (h : ER C F H (σa ++ σ) (ea ++ env)) (hl : σa.length = ea.length) (sh : ShE ea) (hi : env[i]? = some (.st w T ST t)) (hv : σ[i]? = some (some v0)) :
    ∃ B io, ER ⟨C.K, B, F, H, io⟩ F H (some v0 :: σa) (.st (some v0) T ST t :: ea) ∧ ∀ (R : Type) (SR : Stor R) (r : R) (t' : T) (F' H' : Hp) (v : V), ER ⟨C.K, B, F, H, io⟩ F' H' [some v, some v0] [.st none R SR r, .st (some v0) T ST t'] →
      ∃ F'', ER C F'' H' (some v :: σ) (.st none R SR r :: env.set i (.st w T ST t')) := by
  have h0 : ER C F H σ env := h.popN hl
  obtain ⟨fp, q⟩ := h0.sl
  have hil := lt_of_get hi
  obtain ⟨v', e1, rr, kk⟩ := q.ok i _ hi
  rw [hv] at e1
  simp at e1; subst e1
  have he := h.enter hl sh
  obtain ⟨fe, qe⟩ := he.sl
  refine ⟨fun a => if a ∈ fp i then none else H a, fp i, ⟨fun a o e => ?_, h0.sF, fun a m => .inl m, fun a m => m, by simp [hl], _, Fps.push (fp := fun _ => []) ⟨fun j s e => ?_, fun j hj a ha => (nomatch ha), fun j l _ _ a ha => (nomatch ha), fun j _ => List.nodup_nil⟩ (fq := fp i) ⟨v0, rfl, rr, rfl, fun a m => .inr m⟩ (fun a m => ⟨if_pos m, (q.own i hil a m).2⟩) (q.nd i hil) fun j _ a ha => (nomatch ha)⟩, ?_⟩
  · have e : (if a ∈ fp i then none else H a) = some o := e
    by_cases m : a ∈ fp i
    · rw [if_pos m] at e; cases e
    · rw [if_neg m] at e; exact e
  · obtain ⟨τ, S, x, rfl, cp⟩ := sh.slot j s e
    obtain ⟨v, e1, r, _⟩ := qe.ok j _ e
    have z := cp.nil r
    rw [z] at r
    exact ⟨v, e1, r, fun _ m => nomatch m⟩
  · intro R SR r t' F' H' v hc
    have bk : ∀ a, H a ≠ none → a ∉ fp i → H' a = H a := fun a m n => by
      cases e : H a with
      | none => exact absurd e m
      | some o => exact hc.sB a o (by show (if a ∈ fp i then none else H a) = _; rw [if_neg n]; exact e)
    have fn : ∀ a, F a ≠ none → a ∉ fp i := fun a m z => m (q.own i hil a z).2.1
    have bn : ∀ a, C.B a ≠ none → a ∉ fp i := fun a m z => m (q.own i hil a z).1
    have sFH : Same F H' := fun a o e => by
      have m : F a ≠ none := by rw [e]; exact fun z => by cases z
      rw [bk a (same_some h0.sF m) (fn a m)]; exact h0.sF a o e
    have up' : ∀ a, H a ≠ none → H' a ≠ none := fun a m => hc.up a m
    obtain ⟨fc, qc⟩ := hc.sl
    obtain ⟨v1, ev1, r1, n1⟩ := qc.ok 0 _ rfl
    obtain ⟨v2, ev2, r2, n2⟩ := qc.ok 1 _ rfl
    simp at ev1 ev2; subst ev1; subst ev2
    have l0 : 0 < ([.st none R SR r, .st (some v0) T ST t'] : Env).length := by simp
    have l1 : 1 < ([.st none R SR r, .st (some v0) T ST t'] : Env).length := by simp
    have i1 : ∀ a ∈ fc 1, H a = none ∨ a ∈ fp i := n2.2
    have sep01 : ∀ a ∈ fc 0, a ∉ fc 1 := fun a m z => by have := qc.sep 0 1 l0 l1 a m z; omega
    have fnn : ∀ a, (H a = none ∨ a ∈ fp i) → F a = none := fun a m => by
      rcases m with m | m
      · exact h0.fnone m
      · exact (q.own i hil a m).2.1
    have bnn : ∀ a, (H a = none ∨ a ∈ fp i) → C.B a = none := fun a m => by
      rcases m with m | m
      · exact h0.bnone m
      · exact (q.own i hil a m).1
    have jH : ∀ j, j < env.length → j ≠ i → ∀ a ∈ fp j, ¬ (H a = none ∨ a ∈ fp i) := fun j hj ne a ha z => by
      rcases z with z | z
      · exact (q.own j hj a ha).2.2 z
      · exact ne (q.sep j i hj hil a ha z)
    refine ⟨hun F F', fun a o e => ?_, hun_same sFH hc.sF, fun a m => ?_, fun a m => up' a (h0.up a m), by simp [h0.len], _, Fps.push (fp := fun j => if j = i then fc 1 else fp j) ⟨fun j s ej => ?_, fun j hj a ha => ?_, fun j l hj hl a ha hb => ?_, fun j hj => ?_⟩ (fq := fc 0) ⟨v, rfl, SR.monoF (same_hunR sFH hc.sF) r1, fun a m => h0.hnone (n1 a m)⟩ (fun a m => ?_) (qc.nd 0 l0) fun j hj a ha m => ?_⟩
    · have m : C.B a ≠ none := by rw [e]; exact fun z => by cases z
      rw [bk a (same_some h0.sB m) (bn a m)]; exact h0.sB a o e
    · rcases hun_some m with z | z
      · exact h0.gr a z
      · rcases hc.gr a z with y | y
        · exact h0.gr a y
        · exact .inr (h0.hnone y)
    · by_cases z : j = i
      · subst z
        rw [List.getElem?_set_self hil] at ej
        cases ej
        simp only [if_pos]
        refine ⟨v0, by rw [hv]; rfl, ST.monoF (same_hunR sFH hc.sF) r2, ?_⟩
        cases w with
        | none =>
          intro a ha
          rcases i1 a ha with m | m
          · exact h0.hnone m
          · exact kk a m
        | some w0 =>
          refine ⟨kk.1, fun a ha => ?_⟩
          rcases i1 a ha with m | m
          · exact .inl (h0.hnone m)
          · exact kk.2 a m
      · rw [List.getElem?_set_ne (fun y => z y.symm)] at ej
        have hj := lt_of_get ej
        simp only [if_neg z]
        exact (q.ok j s ej).go same_hunL (fun a m => bk a (same_some h0.sB m) (bn a m)) fun a ha => bk a (q.own j hj a ha).2.2 fun y => jH j hj z a ha (.inr y)
    · have hj' : j < env.length := by simpa using hj
      by_cases z : j = i
      · simp only [if_pos z] at ha
        exact ⟨bnn a (i1 a ha), hun_none (fnn a (i1 a ha)) (qc.own 1 l1 a ha).2.1, (qc.own 1 l1 a ha).2.2⟩
      · simp only [if_neg z] at ha
        obtain ⟨b, f, c⟩ := q.own j hj' a ha
        refine ⟨b, hun_none f ?_, up' a c⟩
        cases e : F' a with
        | none => rfl
        | some o =>
          rcases hc.gr a (by rw [e]; exact fun z => by cases z) with y | y
          · exact absurd f y
          · exact absurd y c
    · have hj' : j < env.length := by simpa using hj
      have hl' : l < env.length := by simpa using hl
      by_cases zj : j = i
      · by_cases zl : l = i
        · rw [zj, zl]
        · simp only [if_pos zj] at ha
          simp only [if_neg zl] at hb
          exact absurd (i1 a ha) (jH l hl' zl a hb)
      · simp only [if_neg zj] at ha
        by_cases zl : l = i
        · simp only [if_pos zl] at hb
          exact absurd (i1 a hb) (jH j hj' zj a ha)
        · simp only [if_neg zl] at hb
          exact q.sep j l hj' hl' a ha hb
    · have hj' : j < env.length := by simpa using hj
      by_cases z : j = i
      · simp only [if_pos z]; exact qc.nd 1 l1
      · simp only [if_neg z]; exact q.nd j hj'
    · have := n1 a m
      exact ⟨h0.bnone this, hun_none (h0.fnone this) (qc.own 0 l0 a m).2.1, (qc.own 0 l0 a m).2.2⟩
    · have hj' : j < env.length := by simpa using hj
      by_cases z : j = i
      · simp only [if_pos z] at ha
        exact sep01 a m ha
      · simp only [if_neg z] at ha
        exact (q.own j hj' a ha).2.2 (n1 a m)
/-- f(x, ..), f changes x's object -/
theorem lx_callI {w : Option V} {t0 : T} {t : Pt → T} {m : T → A → Option (R × T)} {fa : (A → Pt → Option Ω) → Option Ω} {vn : Str} {vp : Pos} (i : Nat) (Fn : FnOk X.prog X.w X.K X.mg X.base CX0 k f fd ps (spI X.K ST sl SR m)) (hr : Room k X.A) (hm : X.mg nm = some (.ref f)) (hk : PySem.W.keepIn X.K (.ref f) = true) (hb : Binds X.K fd ps []) (sh : ∀ a, ShE (sl a))
    (h0 : env[i]? = some (.st w T ST t0)) (ha : LA X env xs sl e' fa) (h1 : ∀ p, (e' p)[i]? = some (.st w T ST (t p))) (hN : X.N[i]? = some vn := by rfl) (hv : Vis X.env.scope vn := by first | exact Or.inl rfl | exact Or.inr (Or.inl rfl) | exact Or.inr (Or.inr rfl)) (hd : (vn == ("__debug__" : Str)) = false := by decide) (hcd : (vn == ("__classdict__" : Str)) = false := by decide)
    (hg : Gl X nm := by rfl) (hdb : (nm == ("__debug__" : Str)) = false := by decide) (he : starEach (Expr.Name vn vp :: xs) X.env = (false, eval (Expr.Name vn vp) X.env) :: starEach xs X.env := by rfl) (hpl : (backTo pos (starEach xs X.env)).any (·.1) = false := by rfl) :
    LX X env (.Call (.Name nm np) (.Name vn vp :: xs) [] pos) SR (fun p : Pt × T => (e' p.1).set i (.st w T ST p.2)) (fun k => fa fun a p => (m (t p) a).bind fun r => k r.1 (p, r.2)) :=
  fun C F H σs es σ k ω Q hK hl h hk' q => tE.of X (pe_call Fn hr hg hm hk hb .nil pass0 (paC X) hdb he hpl) (la_lend i h0 hN hv ha hd hcd he C F H σs es σ _ ω _ hK hl h hk' fun a p v0 vs F' H' hk2 hv0 hlv h' => by
    obtain ⟨⟨r, t'⟩, hm', hk2⟩ := bind_some hk2
    show spI X.K ST sl SR m (v0 :: vs ++ []) H' Q _
    rw [List.append_nil, ← hK]
    have h2 : ER C F' H' (vs.map some ++ (σs ++ σ)) (sl a ++ (es ++ e' p)) := h'
    obtain ⟨B, io, g1, g2⟩ := h2.enterI (i := es.length + i) (v0 := v0) hlv (sh a) (by rw [at_app _ rfl]; exact h1 p) (by rw [at_app _ hl]; exact hv0)
    refine ⟨B, F', io, t p, a, r, t', v0, vs, rfl, hm', hlv, g1, fun F2 H2 v h3 => ?_⟩
    obtain ⟨F3, h4⟩ := g2 R SR r t' F2 H2 v h3
    rw [List.set_append_right _ _ (Nat.le_add_right _ _), Nat.add_sub_cancel_left] at h4
    exact q r (p, t') v F3 H2 hk2 h4)
end
end Z

set_option Elab.async false
set_option linter.all false
set_option maxRecDepth 100000
namespace Z
open PySem PySem.Spec PyProof.Rows L2

/-! ### comprehensions -/
def compO {α β S Ω : Type} : List α → S → (α → S → (Option β → S → Option Ω) → Option Ω) → List β → (List β → S → Option Ω) → Option Ω
  | [], s, _, acc, k => k acc s
  | x :: xs, s, b, acc, k => b x s fun o s' => match o with
    | some y => ck (decide (acc.length < SZ)) (compO xs s' b (acc ++ [y]) k)
    | none => compO xs s' b acc k
section
variable {C : Ck} {F F' H H' : Hp} {σ σ' σs : List (Option V)} {env es : Env}
theorem ER.like (h : ER C F H (σs ++ σ) (es ++ env)) (hl : σs.length = es.length) (hl2 : σ'.length = σ.length) (he : ∀ (j : Nat) (s : Slot), env[j]? = some s → s = Slot.un ∨ σ'[j]? = σ[j]?) : ER C F H (σs ++ σ') (es ++ env) := by
  have hls := h.lenF hl
  refine h.perm (by simp [hl, hl2, hls]) id fun j s' e => ?_
  by_cases z : j < es.length
  · exact .inr ⟨e, by rw [id, List.getElem?_append_left (by omega), List.getElem?_append_left (by omega)], fun l _ _ _ y => y⟩
  · obtain ⟨m, rfl⟩ : ∃ m, j = es.length + m := ⟨j - es.length, by omega⟩
    have e' := e
    rw [at_app _ rfl] at e'
    rcases he m s' e' with y | y
    · exact .inl y
    · exact .inr ⟨e, by rw [id, at_app _ hl, at_app _ hl, y], fun l _ _ _ y => y⟩
end
section
variable (X : Cx) {Ω : Type}
def tTl (ifs : List Expr) : TT := fun σ H Q => ∀ pins s, Inv X pins σ H s → wpAny (model X.prog X.w) X.A (forIn ifs true fun c r => if r = true then do let ok ← isTrue c X.env (eval c X.env); pure (ForInStep.yield ok) else pure (ForInStep.yield r)) (TP X pins σ Q) X.xe s
theorem ptsC {ifs : List Expr} : PTs X ifs (tTl X ifs) := ⟨fun pins s σ H Q I h => h pins s I⟩
theorem tTl.of {ifs : List Expr} {t : TT} {σ : L2.St} {H : Hp} {Q : Bool → Hp → Prop} (h : PTs X ifs t) (q : t σ H Q) : tTl X ifs σ H Q := fun pins s I => h.run pins s σ H Q I q
/-- the tests of a comprehension -/
def LTl (env : Env) (ifs : List Expr) {P : Type} (env' : P → Env) (f : (Bool → P → Option Ω) → Option Ω) : Prop :=
  ∀ (C : Ck) (F H : Hp) (σs : List (Option V)) (es : Env) (σ : List (Option V)) (k : Bool → P → Option Ω) (ω : Ω) (Q : Bool → Hp → Prop), C.K = X.K → σs.length = es.length → ER C F H (σs ++ σ) (es ++ env) → f k = some ω →
    (∀ a p F' H', k a p = some ω → ER C F' H' (σs ++ σ) (es ++ env' p) → Q a H') → tTl X ifs σ H Q
end
/-- the contexts of a block's turns -/
structure Blk (X : Cx) (scope : Scope) (Y : Cx) : Prop where
  is : ∃ (s : Shared) (H : Hp) (C : Addr) (cl : List (Str × Addr)) (fp : List Addr), Y = X.blk s H scope (compEnvC scope cl C X.env) fp
section
variable {X : Cx} {Ω : Type} {env : Env} {nm : Str} {pos spos np : Pos} {a b c e elt tg iter : Expr} {ifs : List Expr} {P P1 P2 T : Type} {τ τ1 τ2 α β : Type} {S : Stor τ} {Sa : Stor α} {Sb : Stor β} {E : Enc τ} {e' : P → Env} {scope : Scope} {own : List (Str × Nat)} {ix : List Nat}
theorem ltl_nil : LTl X env [] (fun _ : Unit => env) (fun (k : Bool → Unit → Option Ω) => k true ()) :=
  fun C F H σs es σ k ω Q hK hl hr hk q => tTl.of X pts_nil (q true () F H hk hr)
theorem ltl_one {f : (Bool → P → Option Ω) → Option Ω} (h : LT X env c e' f) : LTl X env [c] e' f :=
  fun C F H σs es σ k ω Q hK hl hr hk q => tTl.of X (pts_one (ptC X)) (h C F H σs es σ k ω Q hK hl hr hk q)
theorem lc_run {envT : T → Env} {envX : T → α → Env} {eT : T → α → P1 → Env} {eE : T → α → P1 → P2 → Env} {f : (List α → P → Option Ω) → Option Ω} {ft : T → α → (Bool → P1 → Option Ω) → Option Ω} {fe : T → α → P1 → (β → P2 → Option Ω) → Option Ω}
    (hi : LI X env tg iter Sa e' f) (s0 : P → T) (h0 : ∀ p, Sub (e' p) (envT (s0 p))) (hu : ∀ (t : T) (i : Nat) (s : Slot), i ∈ own.map (·.2) → (envT t)[i]? = some s → s = Slot.un)
    (hg : ∀ Y, Blk X scope Y → ∀ t, LG Y (own.map (·.2)) (envT t) tg Sa (envX t)) (ht : ∀ Y, Blk X scope Y → ∀ t x, LTl Y (envX t x) ifs (eT t x) (ft t x)) (he : ∀ Y, Blk X scope Y → ∀ t x p, LX Y (eT t x p) elt Sb (eE t x p) (fe t x p))
    (tn : T → α → P1 → P2 → T) (hn : ∀ t x p q, Sub (eE t x p q) (envT (tn t x p q))) (tf : T → α → P1 → T) (hf : ∀ t x p, Sub (eT t x p) (envT (tf t x p)))
    {C : Ck} {F H : Hp} {σs : List (Option V)} {es : Env} {σ : List (Option V)} {k : List β → T → Option Ω} {ω : Ω} {Q : VK} (hK : C.K = X.K) (hl : σs.length = es.length) (h : ER C F H (σs ++ σ) (es ++ env))
    (hk : (f fun xs p => compO xs (s0 p) (fun x t kc => ft t x fun b p1 => if b = true then fe t x p1 fun y p2 => kc (some y) (tn t x p1 p2) else kc none (tf t x p1)) [] k) = some ω)
    (q : ∀ ys t v F' H', k ys t = some ω → ER C F' H' (some v :: (σs ++ σ)) (.st none (List β) (ls Sb) ys :: (es ++ envT t)) → Q v H') :
    tLc (tI X tg iter) (fun v σ H Q => ∀ Y, Blk X scope Y → tG Y tg v σ H Q) (fun σ H Q => ∀ Y, Blk X scope Y → tTl Y ifs σ H Q) (fun σ H Q => ∀ Y, Blk X scope Y → tE Y elt σ H Q) (own.map (·.2)) σ H Q := by
  refine hi C F H σs es σ _ ω _ hK hl h hk fun xs p Jt F' H' σx ex hk' h' hy => ?_
  intro D nD
  have like : ∀ {F2 H2 σp ep t}, σp.length = ep.length → ER C F2 H2 (σp ++ (σx ++ (σs ++ σ))) (ep ++ (ex ++ (es ++ envT t))) → ER C F2 H2 (σp ++ (σx ++ (σs ++ wipe σ (own.map (·.2))))) (ep ++ (ex ++ (es ++ envT t))) := fun {F2 H2 σp ep t} hlp h2 => by
    have h3 : ER C F2 H2 ((σp ++ σx ++ σs) ++ σ) ((ep ++ ex ++ es) ++ envT t) := by simpa [List.append_assoc] using h2
    have := h3.like (σ' := wipe σ (own.map (·.2))) (by simp [hlp, hl, hy.len]) (wipe_length _ _) fun j s e => by
      by_cases m : j ∈ own.map (·.2)
      · exact .inl (hu t j s m e)
      · refine .inr ?_
        rw [wipe_get, if_neg m]
    simpa [List.append_assoc] using this
  have unlike : ∀ {F2 H2 σp ep t σ4}, σp.length = ep.length → σ4.length = σ.length → wipe σ4 (own.map (·.2)) = wipe σ (own.map (·.2)) → ER C F2 H2 (σp ++ (σx ++ (σs ++ σ4))) (ep ++ (ex ++ (es ++ envT t))) → ER C F2 H2 (σp ++ (σx ++ (σs ++ σ))) (ep ++ (ex ++ (es ++ envT t))) := fun {F2 H2 σp ep t σ4} hlp hl4 hw h2 => by
    have h3 : ER C F2 H2 ((σp ++ σx ++ σs) ++ σ4) ((ep ++ ex ++ es) ++ envT t) := by simpa [List.append_assoc] using h2
    have := h3.like (σ' := σ) (by simp [hlp, hl, hy.len]) hl4.symm fun j s e => by
      by_cases m : j ∈ own.map (·.2)
      · exact .inl (hu t j s m e)
      · refine .inr ?_
        have := congrArg (fun l => l[j]?) hw
        simp only [wipe_get, if_neg m] at this
        exact this.symm
    simpa [List.append_assoc] using this
  have hnew : ER C F' (upd H' D (.lst [])) (some (.ref D) :: (σx ++ (σs ++ σ))) (.st none (List β) (ls Sb) [] :: (ex ++ (es ++ e' p))) := h'.newOw nD ⟨D, [], [], rfl, upd_same, .nil, rfl⟩
  refine ⟨fun i m H2 => m = xs.length - i ∧ i ≤ xs.length ∧ ∃ acc t F2, ER C F2 H2 (some (.ref D) :: (σx ++ (σs ++ σ))) (.st none (List β) (ls Sb) acc :: (ex ++ (es ++ envT t))) ∧
    compO (xs.drop i) t (fun x t kc => ft t x fun b p1 => if b = true then fe t x p1 fun y p2 => kc (some y) (tn t x p1 p2) else kc none (tf t x p1)) acc k = some ω,
    ⟨xs.length, by simp, Nat.zero_le _, [], s0 p, F', ER.sub hnew (.keep (((h0 p).pre es).pre ex)), by simpa using hk'⟩, ?_⟩
  rintro i m H2 ⟨rfl, hi', acc, t, F2, h2, hk2⟩
  obtain ⟨y1, y2⟩ := hy.go i F2 H2 [some (.ref D)] (σs ++ σ) [.st none (List β) (ls Sb) acc] (es ++ envT t) rfl h2
  by_cases hlt : i < xs.length
  · have ex1 : xs[i]? = some xs[i] := List.getElem?_eq_getElem hlt
    obtain ⟨g1, g2⟩ := y1 _ ex1
    have ed : xs.drop i = xs[i] :: xs.drop (i + 1) := List.drop_eq_getElem_cons hlt
    rw [ed] at hk2
    refine .inr ⟨g1, fun H3 => ∃ acc t F3, ER C F3 H3 (some (.ref D) :: (σx ++ (σs ++ σ))) (.st none (List β) (ls Sb) acc :: (ex ++ (es ++ envT t))) ∧
      compO (xs.drop (i + 1)) t (fun x t kc => ft t x fun b p1 => if b = true then fe t x p1 fun y p2 => kc (some y) (tn t x p1 p2) else kc none (tf t x p1)) acc k = some ω,
      fun H3 ⟨acc3, t3, F3, h3, hk3⟩ => ⟨xs.length - (i + 1), by omega, rfl, hlt, acc3, t3, F3, h3, hk3⟩, fun v H3 hv Y bY => ?_⟩
    have YK : C.K = Y.K := by obtain ⟨_, _, _, _, _, rfl⟩ := bY.is; exact hK
    obtain ⟨F3, h3⟩ := g2 v H3 hv
    have h3' := like (σp := [some v, some (.ref D)]) (ep := [.st none α Sa xs[i], .st none (List β) (ls Sb) acc]) rfl h3
    have lenp : ((some (.ref D) : Option V) :: (σx ++ σs)).length = ((.st none (List β) (ls Sb) acc : Slot) :: (ex ++ es)).length := by simp [hl, hy.len]
    refine hg Y bY t C F3 H3 (some (.ref D) :: (σx ++ σs)) (.st none (List β) (ls Sb) acc :: (ex ++ es)) (wipe σ (own.map (·.2))) v xs[i] _ YK lenp (by simpa [List.append_assoc] using h3') fun σ4 e4 h4 => ?_
    have hw : wipe σ4 (own.map (·.2)) = wipe (wipe σ (own.map (·.2))) (own.map (·.2)) := e4.wipe
    have hww : wipe (wipe σ (own.map (·.2))) (own.map (·.2)) = wipe σ (own.map (·.2)) := by
      apply List.ext_getElem?
      intro j
      rw [wipe_get, wipe_length, wipe_get]
      by_cases m : j ∈ own.map (·.2)
      · rw [if_pos m, if_pos m]
      · rw [if_neg m, if_neg m]
    have hl4 : σ4.length = σ.length := by rw [e4.1, wipe_length]
    refine ⟨hw.trans hww, fun Y bY => ?_⟩
    have YK : C.K = Y.K := by obtain ⟨_, _, _, _, _, rfl⟩ := bY.is; exact hK
    refine ht Y bY t xs[i] C F3 H3 (some (.ref D) :: (σx ++ σs)) (.st none (List β) (ls Sb) acc :: (ex ++ es)) σ4 _ ω _ YK lenp h4 hk2 fun bb p1 F5 H5 hk5 h5 => ?_
    cases bb with
    | false =>
      rw [if_neg Bool.false_ne_true] at hk5 ⊢
      refine ⟨acc, tf t xs[i] p1, F5, ?_, hk5⟩
      have h6 := ER.subF (σs := some (.ref D) :: (σx ++ σs)) h5 (hf t xs[i] p1)
      exact unlike (σp := [some (.ref D)]) (ep := [.st none (List β) (ls Sb) acc]) rfl hl4 (hw.trans hww) (by simpa [List.append_assoc] using h6)
    | true =>
      rw [if_pos rfl] at hk5 ⊢
      intro Y bY
      have YK : C.K = Y.K := by obtain ⟨_, _, _, _, _, rfl⟩ := bY.is; exact hK
      refine he Y bY t xs[i] p1 C F5 H5 (some (.ref D) :: (σx ++ σs)) (.st none (List β) (ls Sb) acc :: (ex ++ es)) σ4 _ ω _ YK lenp h5 hk5 fun y p2 u F6 H6 hk6 h6 => ?_
      have h7 : ER C F6 H6 (some u :: some (.ref D) :: (σx ++ (σs ++ σ4))) (.st none β Sb y :: .st none (List β) (ls Sb) acc :: (ex ++ (es ++ eE t xs[i] p1 p2))) := by simpa [List.append_assoc] using h6
      obtain ⟨hc, hk6⟩ := ck_some hk6
      obtain ⟨v', fp', v0, fq, e2, e3, r1, r2, nd, ow, fin⟩ := h7.absorb (i := 0) (w := none) (τ := List β) (S := ls Sb) (x := acc) rfl
      simp at e2 e3; subst e2; subst e3
      obtain ⟨q1, vs, fps, e4', hq, ra, rfl⟩ := r1
      cases e4'
      have hlen := ra.length
      have hc' := of_decide_eq_true hc
      refine ⟨vs, hq, by rw [SZ_eq]; omega, acc ++ [y], tn t xs[i] p1 p2, F6, ?_, hk6⟩
      have nm : D ∉ fps ++ fq := by
        have : (D :: (fps ++ fq)).Nodup := by simpa using nd
        exact (List.nodup_cons.mp this).1
      have fin' := fin (List β) (ls Sb) (acc ++ [y]) (upd H6 D (.lst (vs ++ [u]))) (D :: (fps ++ fq)) (fun a na _ => upd_ne fun z => na (by rw [z]; simp)) (fun a m => by
        by_cases z : a = D
        · subst z; rw [upd_same]; exact fun z => by cases z
        · rw [upd_ne z]; exact m) ⟨D, vs ++ [u], fps ++ fq, rfl, upd_same, RelAll.imp (fun fr' v' x' s q => Sb.frame (fun a m => upd_ne fun z => nm (z ▸ s a m)) q) (ra.app r2), rfl⟩ (by simpa using nd) (fun a m => by
        refine ⟨?_, .inl (by simpa using m)⟩
        by_cases z : a = D
        · subst z; rw [upd_same]; exact fun z => by cases z
        · rw [upd_ne z]; exact (ow a (by simpa using m)).2.2)
      have h8 : ER C F6 (upd H6 D (.lst (vs ++ [u]))) ((some (.ref D) :: (σx ++ σs)) ++ σ4) ((.st none (List β) (ls Sb) (acc ++ [y]) :: (ex ++ es)) ++ eE t xs[i] p1 p2) := by simpa [List.append_assoc] using fin'
      have h9 := h8.subF (hn t xs[i] p1 p2)
      exact unlike (σp := [some (.ref D)]) (ep := [.st none (List β) (ls Sb) (acc ++ [y])]) rfl hl4 (hw.trans hww) (by simpa [List.append_assoc] using h9)
  · have e : i = xs.length := by omega
    subst e
    refine .inl ⟨y2 (by simp), q acc t (.ref D) F2 H2 (by simpa [compO] using hk2) ?_⟩
    have h3 : ER C F2 H2 (σx ++ some (.ref D) :: (σs ++ σ)) (ex ++ .st none (List β) (ls Sb) acc :: (es ++ envT t)) := ER.unrot h2 hy.len
    exact h3.popN hy.len
end
end Z

set_option Elab.async false
set_option linter.all false
set_option maxRecDepth 100000
namespace Z
open PySem PySem.Spec PyProof.Rows L2

section
variable {X : Cx} {Ω : Type} {env : Env} {nm : Str} {pos spos np : Pos} {a b c e elt tg iter : Expr} {ifs : List Expr} {P P1 P2 T : Type} {τ τ1 τ2 α β : Type} {S : Stor τ} {Sa : Stor α} {Sb : Stor β} {E : Enc τ} {e' : P → Env} {scope : Scope} {own : List (Str × Nat)} {ix : List Nat}
/-- [elt for tg in iter if ..] -/
theorem lx_lc {envT : T → Env} {envX : T → α → Env} {eT : T → α → P1 → Env} {eE : T → α → P1 → P2 → Env} {f : (List α → P → Option Ω) → Option Ω} {ft : T → α → (Bool → P1 → Option Ω) → Option Ω} {fe : T → α → P1 → (β → P2 → Option Ω) → Option Ω}
    (hc : X.calm = true) (hN : X.N.Nodup) (ok : BlkOk X.N X.env.scope scope own)
    (hi : LI X env tg iter Sa e' f) (s0 : P → T) (h0 : ∀ p, Sub (e' p) (envT (s0 p))) (hu : ∀ (t : T) (i : Nat) (s : Slot), i ∈ own.map (·.2) → (envT t)[i]? = some s → s = Slot.un)
    (hg : ∀ (s : Shared) (H : Hp) (C : Addr) (cl : List (Str × Addr)) (fp : List Addr) t, LG (X.blk s H scope (compEnvC scope cl C X.env) fp) (own.map (·.2)) (envT t) tg Sa (envX t)) (ht : ∀ (s : Shared) (H : Hp) (C : Addr) (cl : List (Str × Addr)) (fp : List Addr) t x, LTl (X.blk s H scope (compEnvC scope cl C X.env) fp) (envX t x) ifs (eT t x) (ft t x)) (he : ∀ (s : Shared) (H : Hp) (C : Addr) (cl : List (Str × Addr)) (fp : List Addr) t x p, LX (X.blk s H scope (compEnvC scope cl C X.env) fp) (eT t x p) elt Sb (eE t x p) (fe t x p))
    (tn : T → α → P1 → P2 → T) (hn : ∀ t x p q, Sub (eE t x p q) (envT (tn t x p q))) (tf : T → α → P1 → T) (hf : ∀ t x p, Sub (eT t x p) (envT (tf t x p)))
    (hs : ∀ x, foldedSetIterable iter X.env x = pure x := by intro _; rfl) :
    LX X env (.ListComp elt [⟨tg, iter, ifs, 0⟩] scope pos) (ls Sb) envT (fun k => f fun xs p => compO xs (s0 p) (fun x t kc => ft t x fun b p1 => if b = true then fe t x p1 fun y p2 => kc (some y) (tn t x p1 p2) else kc none (tf t x p1)) [] k) :=
  fun C F H σs es σ k ω Q hK hl h hk q => tE.of X (pe_lc hc hN (piC X) ok (fun s H C cl fp => ⟨fun pins s' σ H' v u Q I r h => h _ ⟨s, H, C, cl, fp, rfl⟩ pins s' u I r⟩) (fun s H C cl fp => ⟨fun pins s' σ H' Q I h => h _ ⟨s, H, C, cl, fp, rfl⟩ pins s' I⟩) (fun s H C cl fp => ⟨fun pins s' σ H' Q I h => h _ ⟨s, H, C, cl, fp, rfl⟩ pins s' I⟩) hs)
    (lc_run hi s0 h0 hu (fun Y bY => by obtain ⟨s, H, C, cl, fp, rfl⟩ := bY.is; exact hg s H C cl fp) (fun Y bY => by obtain ⟨s, H, C, cl, fp, rfl⟩ := bY.is; exact ht s H C cl fp) (fun Y bY => by obtain ⟨s, H, C, cl, fp, rfl⟩ := bY.is; exact he s H C cl fp) tn hn tf hf hK hl h hk q)
/-- y = [..], y a local of the def, on one line -/
theorem lb_setLc {R I J : Type} {SR : Stor R} {envR : I → Env} {kr : R → I → Option Ω} {bk ct : Lp Ω} {rest : List Stmt} {envJ : J → Env} {fr : List β → T → (J → Option Ω) → Option Ω} {py : Pos}
    {envT : T → Env} {envX : T → α → Env} {eT : T → α → P1 → Env} {eE : T → α → P1 → P2 → Env} {f : (List α → P → Option Ω) → Option Ω} {ft : T → α → (Bool → P1 → Option Ω) → Option Ω} {fe : T → α → P1 → (β → P2 → Option Ω) → Option Ω}
    (hc : X.calm = true) (hN : X.N.Nodup) (ok : BlkOk X.N X.env.scope scope own) (i : Nat)
    (hi : LI X env tg iter Sa e' f) (s0 : P → T) (h0 : ∀ p, Sub (e' p) (envT (s0 p))) (hu : ∀ (t : T) (i : Nat) (s : Slot), i ∈ own.map (·.2) → (envT t)[i]? = some s → s = Slot.un)
    (hg : ∀ (s : Shared) (H : Hp) (C : Addr) (cl : List (Str × Addr)) (fp : List Addr) t, LG (X.blk s H scope (compEnvC scope cl C X.env) fp) (own.map (·.2)) (envT t) tg Sa (envX t)) (ht : ∀ (s : Shared) (H : Hp) (C : Addr) (cl : List (Str × Addr)) (fp : List Addr) t x, LTl (X.blk s H scope (compEnvC scope cl C X.env) fp) (envX t x) ifs (eT t x) (ft t x)) (he : ∀ (s : Shared) (H : Hp) (C : Addr) (cl : List (Str × Addr)) (fp : List Addr) t x p, LX (X.blk s H scope (compEnvC scope cl C X.env) fp) (eT t x p) elt Sb (eE t x p) (fe t x p))
    (tn : T → α → P1 → P2 → T) (hn : ∀ t x p q, Sub (eE t x p q) (envT (tn t x p q))) (tf : T → α → P1 → T) (hf : ∀ t x p, Sub (eT t x p) (envT (tf t x p)))
    (hr : ∀ ys t, LB X SR envR kr bk ct ((envT t).set i (.st none (List β) (ls Sb) ys)) rest envJ (fr ys t)) (hsw : swapsWith (.ListComp elt [⟨tg, iter, ifs, 0⟩] scope pos) (some (.Name nm py)) spos.line X.env = pure true) (hlt : ∀ t, i < (envT t).length := by exact (fun _ => Nat.lt_of_sub_eq_succ rfl)) (hy : X.N[i]? = some nm := by rfl) (hyl : X.env.scope.names.lookup nm = some .local := by rfl)
    (hs : ∀ x, foldedSetIterable iter X.env x = pure x := by intro _; rfl) :
    LB X SR envR kr bk ct env (.Assign [.Name nm py] (.ListComp elt [⟨tg, iter, ifs, 0⟩] scope pos) spos :: rest) envJ
      (fun kn => f fun xs p => compO xs (s0 p) (fun x t kc => ft t x fun b p1 => if b = true then fe t x p1 fun y p2 => kc (some y) (tn t x p1 p2) else kc none (tf t x p1)) [] fun ys t => fr ys t kn) :=
  fun C F H σs es σ kn ω D hK hl h hk qn qb qc qr => tSs.of X (pss_cons (ps_setLc (g := fun v σ H Q => ∀ Y, Blk X scope Y → tG Y tg v σ H Q) (tt := fun σ H Q => ∀ Y, Blk X scope Y → tTl Y ifs σ H Q) (te := fun σ H Q => ∀ Y, Blk X scope Y → tE Y elt σ H Q) hc hN hy hyl hsw (piC X) ok (fun s H C cl fp => ⟨fun pins s' σ H' v u Q I r h => h _ ⟨s, H, C, cl, fp, rfl⟩ pins s' u I r⟩) (fun s H C cl fp => ⟨fun pins s' σ H' Q I h => h _ ⟨s, H, C, cl, fp, rfl⟩ pins s' I⟩) (fun s H C cl fp => ⟨fun pins s' σ H' Q I h => h _ ⟨s, H, C, cl, fp, rfl⟩ pins s' I⟩) hs) (pssC X))
    (lc_run hi s0 h0 hu (fun Y bY => by obtain ⟨s, H, C, cl, fp, rfl⟩ := bY.is; exact hg s H C cl fp) (fun Y bY => by obtain ⟨s, H, C, cl, fp, rfl⟩ := bY.is; exact ht s H C cl fp) (fun Y bY => by obtain ⟨s, H, C, cl, fp, rfl⟩ := bY.is; exact he s H C cl fp) tn hn tf hf hK hl h hk fun ys t v F' H' hk' h' => hr ys t C F' H' σs es (σ.set i (some v)) kn ω D hK hl (h'.asg hl (hlt t)) hk' qn qb qc qr)

/-! ### built-ins over one thing -/
/-- f(e): what comes back is told by data -/
theorem lx_b1 {G : Env → Prop} {id : String} {r : List V → Hp → VK → Prop} {E : Enc β} {g : τ → Option β} {f : (τ → P → Option Ω) → Option Ω} (hcall : CallR X (.builtin id) r) (hm : X.mg nm = none) (hv : bootBuiltins nm = some (.builtin id)) (ha : LO X G env a S e' f) (hG : ∀ p, G (e' p))
    (hr : ∀ K F H fp v x y (Q : VK), K = X.K → Same F H → g x = some y → S.rel K F H fp v x → (∀ u, Rep K F u (E.enc y) → Q u H) → r [v] H Q)
    (hg : Gl X nm := by rfl) (hn : nm ≠ "__name__" := by decide) (hdb : (nm == ("__debug__" : Str)) = false := by decide) (he : starEach (a :: []) X.env = (false, eval a X.env) :: starEach [] X.env := by rfl) (hpl : (backTo pos (starEach [] X.env)).any (·.1) = false := by rfl) :
    LX X env (.Call (.Name nm np) [a] [] pos) (it E) e' (fun k => f fun x p => (g x).bind fun y => k y p) :=
  fun C F H σs es σ k ω Q hK hl h hk q => tE.of X (pe_callB hcall hg hm hv (pa_cons (peC X) pa_nil he) hn hdb he hpl) (lo_run ha hG hK hl h hk fun x p v F' H' fp hk' h' rr => by
    obtain ⟨y, hy, hk'⟩ := bind_some hk'
    exact hr C.K F' H' fp v x y Q hK h'.sF hy rr fun u hu => q y p u F' H' hk' (h'.pushSh hu))
/-- .. that always comes back -/
theorem lx_b1t {G : Env → Prop} {id : String} {r : List V → Hp → VK → Prop} {E : Enc β} {g : τ → β} {f : (τ → P → Option Ω) → Option Ω} (hcall : CallR X (.builtin id) r) (hm : X.mg nm = none) (hv : bootBuiltins nm = some (.builtin id)) (ha : LO X G env a S e' f) (hG : ∀ p, G (e' p))
    (hr : ∀ K F H fp v x (Q : VK), K = X.K → Same F H → S.rel K F H fp v x → (∀ u, Rep K F u (E.enc (g x)) → Q u H) → r [v] H Q)
    (hg : Gl X nm := by rfl) (hn : nm ≠ "__name__" := by decide) (hdb : (nm == ("__debug__" : Str)) = false := by decide) (he : starEach (a :: []) X.env = (false, eval a X.env) :: starEach [] X.env := by rfl) (hpl : (backTo pos (starEach [] X.env)).any (·.1) = false := by rfl) :
    LX X env (.Call (.Name nm np) [a] [] pos) (it E) e' (fun k => f fun x p => k (g x) p) :=
  fun C F H σs es σ k ω Q hK hl h hk q => tE.of X (pe_callB hcall hg hm hv (pa_cons (peC X) pa_nil he) hn hdb he hpl) (lo_run ha hG hK hl h hk fun x p v F' H' fp hk' h' rr =>
    hr C.K F' H' fp v x Q hK h'.sF rr fun u hu => q (g x) p u F' H' hk' (h'.pushSh hu))
/-- .. of a type -/
theorem lx_y1t {G : Env → Prop} {Ty : String} {r : List V → Hp → VK → Prop} {E : Enc β} {g : τ → β} {f : (τ → P → Option Ω) → Option Ω} (hcall : CallR X (.type Ty) r) (hm : X.mg nm = none) (hv : bootBuiltins nm = some (.type Ty)) (ha : LO X G env a S e' f) (hG : ∀ p, G (e' p))
    (hr : ∀ K F H fp v x (Q : VK), K = X.K → Same F H → S.rel K F H fp v x → (∀ u, Rep K F u (E.enc (g x)) → Q u H) → r [v] H Q)
    (hg : Gl X nm := by rfl) (hn : nm ≠ "__name__" := by decide) (hdb : (nm == ("__debug__" : Str)) = false := by decide) (he : starEach (a :: []) X.env = (false, eval a X.env) :: starEach [] X.env := by rfl) (hpl : (backTo pos (starEach [] X.env)).any (·.1) = false := by rfl) :
    LX X env (.Call (.Name nm np) [a] [] pos) (it E) e' (fun k => f fun x p => k (g x) p) :=
  fun C F H σs es σ k ω Q hK hl h hk q => tE.of X (pe_callTy hcall hg hm hv (pa_cons (peC X) pa_nil he) hn hdb he hpl) (lo_run ha hG hK hl h hk fun x p v F' H' fp hk' h' rr =>
    hr C.K F' H' fp v x Q hK h'.sF rr fun u hu => q (g x) p u F' H' hk' (h'.pushSh hu))
/-- .. that makes a new list of shared things -/
theorem lx_b1n {G : Env → Prop} {id : String} {r : List V → Hp → VK → Prop} {E : Enc β} {g : τ → Option (List β)} {f : (τ → P → Option Ω) → Option Ω} (hcall : CallR X (.builtin id) r) (hm : X.mg nm = none) (hv : bootBuiltins nm = some (.builtin id)) (ha : LO X G env a S e' f) (hG : ∀ p, G (e' p))
    (hr : ∀ K F H fp v x y (Q : VK), K = X.K → Same F H → g x = some y → S.rel K F H fp v x → (∀ t vs, H t = none → RepAll K F vs (y.map E.enc) → Q (.ref t) (upd H t (.lst vs))) → r [v] H Q)
    (hg : Gl X nm := by rfl) (hn : nm ≠ "__name__" := by decide) (hdb : (nm == ("__debug__" : Str)) = false := by decide) (he : starEach (a :: []) X.env = (false, eval a X.env) :: starEach [] X.env := by rfl) (hpl : (backTo pos (starEach [] X.env)).any (·.1) = false := by rfl) :
    LX X env (.Call (.Name nm np) [a] [] pos) (ls (it E)) e' (fun k => f fun x p => (g x).bind fun y => k y p) :=
  fun C F H σs es σ k ω Q hK hl h hk q => tE.of X (pe_callB hcall hg hm hv (pa_cons (peC X) pa_nil he) hn hdb he hpl) (lo_run ha hG hK hl h hk fun x p v F' H' fp hk' h' rr => by
    obtain ⟨y, hy, hk'⟩ := bind_some hk'
    exact hr C.K F' H' fp v x y Q hK h'.sF hy rr fun t vs nt hu => q y p (.ref t) F' _ hk' (h'.newOw nt ⟨t, vs, [], rfl, upd_same, hu.zero, rfl⟩))
theorem lx_y1n {G : Env → Prop} {Ty : String} {r : List V → Hp → VK → Prop} {E : Enc β} {g : τ → List β} {f : (τ → P → Option Ω) → Option Ω} (hcall : CallR X (.type Ty) r) (hm : X.mg nm = none) (hv : bootBuiltins nm = some (.type Ty)) (ha : LO X G env a S e' f) (hG : ∀ p, G (e' p))
    (hr : ∀ K F H fp v x (Q : VK), K = X.K → Same F H → S.rel K F H fp v x → (∀ t vs, H t = none → RepAll K F vs ((g x).map E.enc) → Q (.ref t) (upd H t (.lst vs))) → r [v] H Q)
    (hg : Gl X nm := by rfl) (hn : nm ≠ "__name__" := by decide) (hdb : (nm == ("__debug__" : Str)) = false := by decide) (he : starEach (a :: []) X.env = (false, eval a X.env) :: starEach [] X.env := by rfl) (hpl : (backTo pos (starEach [] X.env)).any (·.1) = false := by rfl) :
    LX X env (.Call (.Name nm np) [a] [] pos) (ls (it E)) e' (fun k => f fun x p => k (g x) p) :=
  fun C F H σs es σ k ω Q hK hl h hk q => tE.of X (pe_callTy hcall hg hm hv (pa_cons (peC X) pa_nil he) hn hdb he hpl) (lo_run ha hG hK hl h hk fun x p v F' H' fp hk' h' rr =>
    hr C.K F' H' fp v x Q hK h'.sF rr fun t vs nt hu => q (g x) p (.ref t) F' _ hk' (h'.newOw nt ⟨t, vs, [], rfl, upd_same, hu.zero, rfl⟩))
/-- f(a, b) of two ints -/
theorem lx_b2I {id : String} {r : List V → Hp → VK → Prop} {g : Int → Int → Int} {e1 : P1 → Env} {e2 : P1 → P2 → Env} {fa : (Int → P1 → Option Ω) → Option Ω} {fb : P1 → (Int → P2 → Option Ω) → Option Ω} (hcall : CallR X (.builtin id) r) (hr : ∀ i j H (Q : VK), Q (.int (g i j)) H → r [.int i, .int j] H Q) (hm : X.mg nm = none) (hv : bootBuiltins nm = some (.builtin id))
    (ha : LX X env a (it eI) e1 fa) (hb : ∀ p1, LX X (e1 p1) b (it eI) (e2 p1) (fb p1)) (hg : Gl X nm := by rfl) (hn : nm ≠ "__name__" := by decide) (hdb : (nm == ("__debug__" : Str)) = false := by decide)
    (he : starEach [a, b] X.env = (false, eval a X.env) :: starEach [b] X.env := by rfl) (he2 : starEach [b] X.env = (false, eval b X.env) :: starEach [] X.env := by rfl) (hpl : (backTo pos (starEach [b] X.env)).any (·.1) = false := by rfl) :
    LX X env (.Call (.Name nm np) [a, b] [] pos) (it eI) (fun p : P1 × P2 => e2 p.1 p.2) (fun k => fa fun x p1 => fb p1 fun y p2 => k (g x y) (p1, p2)) :=
  fun C F H σs es σ k ω Q hK hl h hk q => tE.of X (pe_callB hcall hg hm hv (pa_cons (peC X) (pa_cons (peC X) pa_nil he2) he) hn hdb he hpl) (op2_run (lo_of ha) (fun p1 => lo_of (hb p1)) (fun _ _ => trivial) (fun _ _ => trivial) hK hl h hk
    fun x p1 y p2 v u F' H' fp fq hk' h' r1 r2 => by
      obtain ⟨_, r1⟩ := r1
      obtain ⟨_, r2⟩ := r2
      cases r1; cases r2
      exact hr x y H' Q (q _ (p1, p2) _ F' H' hk' (h'.pushSh (.int _))))
section
variable {G : Env → Prop} {fI : (Int → P → Option Ω) → Option Ω} {f : (τ → P → Option Ω) → Option Ω} {g : τ → List α} {Ea : Enc α}
theorem lx_abs (hm : X.mg "abs" = none) (ha : LX X env a (it eI) e' fI) (hg : Gl X "abs" := by rfl) (he : starEach (a :: []) X.env = (false, eval a X.env) :: starEach [] X.env := by rfl) (hpl : (backTo pos (starEach [] X.env)).any (·.1) = false := by rfl) :
    LX X env (.Call (.Name "abs" np) [a] [] pos) (it eI) e' (fun k => fI fun x p => k (if x < 0 then -x else x) p) :=
  lx_b1t (E := eI) (g := fun x : Int => if x < 0 then -x else x) call_abs hm boot_abs (lo_of ha) (fun _ => trivial) (fun K F H fp v x Q _ _ r q => by obtain ⟨_, r⟩ := r; cases r; exact ⟨x, rfl, q _ (.int _)⟩) hg (by decide) (by decide) he hpl
theorem lx_int1 (hm : X.mg "int" = none) (ha : LX X env a (it eI) e' fI) (hg : Gl X "int" := by rfl) (he : starEach (a :: []) X.env = (false, eval a X.env) :: starEach [] X.env := by rfl) (hpl : (backTo pos (starEach [] X.env)).any (·.1) = false := by rfl) :
    LX X env (.Call (.Name "int" np) [a] [] pos) (it eI) e' (fun k => fI fun x p => k x p) :=
  lx_y1t (E := eI) (g := fun x : Int => x) call_int1 hm PyProof.Rows.boot_int (lo_of ha) (fun _ => trivial) (fun K F H fp v x Q _ _ r q => by obtain ⟨_, r⟩ := r; cases r; exact .inl ⟨x, rfl, q _ (.int _)⟩) hg (by decide) (by decide) he hpl
theorem lx_intB {fB : (Bool → P → Option Ω) → Option Ω} (hm : X.mg "int" = none) (ha : LX X env a (it eB) e' fB) (hg : Gl X "int" := by rfl) (he : starEach (a :: []) X.env = (false, eval a X.env) :: starEach [] X.env := by rfl) (hpl : (backTo pos (starEach [] X.env)).any (·.1) = false := by rfl) :
    LX X env (.Call (.Name "int" np) [a] [] pos) (it eI) e' (fun k => fB fun x p => k (if x = true then 1 else 0) p) :=
  lx_y1t (E := eI) (g := fun x : Bool => if x = true then (1 : Int) else 0) call_int1 hm PyProof.Rows.boot_int (lo_of ha) (fun _ => trivial) (fun K F H fp v x Q _ _ r q => by obtain ⟨_, r⟩ := r; cases r; exact .inr ⟨x, rfl, q _ (.int _)⟩) hg (by decide) (by decide) he hpl
theorem lx_max2 {e1 : P1 → Env} {e2 : P1 → P2 → Env} {fa : (Int → P1 → Option Ω) → Option Ω} {fb : P1 → (Int → P2 → Option Ω) → Option Ω} (hc : X.calm = true) (hm : X.mg "max" = none) (ha : LX X env a (it eI) e1 fa) (hb : ∀ p1, LX X (e1 p1) b (it eI) (e2 p1) (fb p1)) (hg : Gl X "max" := by rfl)
    (he : starEach [a, b] X.env = (false, eval a X.env) :: starEach [b] X.env := by rfl) (he2 : starEach [b] X.env = (false, eval b X.env) :: starEach [] X.env := by rfl) (hpl : (backTo pos (starEach [b] X.env)).any (·.1) = false := by rfl) :
    LX X env (.Call (.Name "max" np) [a, b] [] pos) (it eI) (fun p : P1 × P2 => e2 p.1 p.2) (fun k => fa fun x p1 => fb p1 fun y p2 => k (max x y) (p1, p2)) :=
  lx_b2I (call_max2 hc) (fun i j H Q q => ⟨i, j, rfl, by rw [show (if j > i then j else i) = max i j by omega]; exact q⟩) hm boot_max ha hb hg (by decide) (by decide) he he2 hpl
theorem lx_min2 {e1 : P1 → Env} {e2 : P1 → P2 → Env} {fa : (Int → P1 → Option Ω) → Option Ω} {fb : P1 → (Int → P2 → Option Ω) → Option Ω} (hc : X.calm = true) (hm : X.mg "min" = none) (ha : LX X env a (it eI) e1 fa) (hb : ∀ p1, LX X (e1 p1) b (it eI) (e2 p1) (fb p1)) (hg : Gl X "min" := by rfl)
    (he : starEach [a, b] X.env = (false, eval a X.env) :: starEach [b] X.env := by rfl) (he2 : starEach [b] X.env = (false, eval b X.env) :: starEach [] X.env := by rfl) (hpl : (backTo pos (starEach [b] X.env)).any (·.1) = false := by rfl) :
    LX X env (.Call (.Name "min" np) [a, b] [] pos) (it eI) (fun p : P1 × P2 => e2 p.1 p.2) (fun k => fa fun x p1 => fb p1 fun y p2 => k (min x y) (p1, p2)) :=
  lx_b2I (call_min2 hc) (fun i j H Q q => ⟨i, j, rfl, by rw [show (if j < i then j else i) = min i j by omega]; exact q⟩) hm boot_min ha hb hg (by decide) (by decide) he he2 hpl
theorem lx_len (hv : LVw S (it Ea) g) (hm : X.mg "len" = none) (ha : LO X G env a S e' f) (hG : ∀ p, G (e' p)) (hg : Gl X "len" := by rfl) (he : starEach (a :: []) X.env = (false, eval a X.env) :: starEach [] X.env := by rfl) (hpl : (backTo pos (starEach [] X.env)).any (·.1) = false := by rfl) :
    LX X env (.Call (.Name "len" np) [a] [] pos) (it eI) e' (fun k => f fun x p => k ((g x).length : Int) p) :=
  lx_b1t (E := eI) (g := fun x : τ => ((g x).length : Int)) call_len_seq hm PySem.boot_len ha hG (fun K F H fp v x Q hK s r q => by
    obtain ⟨p, vs, fps, rfl, h1, h2⟩ := hv.view s r
    have := h2.length
    exact ⟨p, vs, rfl, .inl (by rw [← hK]; exact h1), by rw [this]; exact q _ (.int _)⟩) hg (by decide) (by decide) he hpl
theorem lx_lenO {Sx : Stor α} (hv : LVw S Sx g) (hm : X.mg "len" = none) (ha : LO X G env a S e' f) (hG : ∀ p, G (e' p)) (hg : Gl X "len" := by rfl) (he : starEach (a :: []) X.env = (false, eval a X.env) :: starEach [] X.env := by rfl) (hpl : (backTo pos (starEach [] X.env)).any (·.1) = false := by rfl) :
    LX X env (.Call (.Name "len" np) [a] [] pos) (it eI) e' (fun k => f fun x p => k ((g x).length : Int) p) :=
  lx_b1t (E := eI) (g := fun x : τ => ((g x).length : Int)) call_len_seq hm PySem.boot_len ha hG (fun K F H fp v x Q hK s r q => by
    obtain ⟨p, vs, fps, rfl, h1, h2⟩ := hv.view s r
    have := h2.length
    exact ⟨p, vs, rfl, .inl (by rw [← hK]; exact h1), by rw [this]; exact q _ (.int _)⟩) hg (by decide) (by decide) he hpl
theorem lx_lenV (hv : TVw S (it Ea) g) (hm : X.mg "len" = none) (ha : LO X G env a S e' f) (hG : ∀ p, G (e' p)) (hg : Gl X "len" := by rfl) (he : starEach (a :: []) X.env = (false, eval a X.env) :: starEach [] X.env := by rfl) (hpl : (backTo pos (starEach [] X.env)).any (·.1) = false := by rfl) :
    LX X env (.Call (.Name "len" np) [a] [] pos) (it eI) e' (fun k => f fun x p => k ((g x).length : Int) p) :=
  lx_b1t (E := eI) (g := fun x : τ => ((g x).length : Int)) call_len_seq hm PySem.boot_len ha hG (fun K F H fp v x Q hK s r q => by
    obtain ⟨p, vs, fps, rfl, h1, h2⟩ := hv.view s r
    have := h2.length
    exact ⟨p, vs, rfl, .inr (by rw [← hK]; exact h1), by rw [this]; exact q _ (.int _)⟩) hg (by decide) (by decide) he hpl
theorem RepAll.ints {K : Fg} {F : Hp} : ∀ {vs : List V} {ns : List Int}, RepAll K F vs (ns.map eI.enc) → vs = ns.map V.int
  | [], [], _ => rfl
  | [], _ :: _, h => by cases h
  | _ :: _, [], h => by cases h
  | v :: vs, n :: ns, h => by
    cases h with
    | cons h1 h2 =>
      have h1' : Rep K F v (.int n) := h1
      cases h1'
      rw [RepAll.ints h2]; rfl
theorem RepAll.ofInts {K : Fg} {F : Hp} : ∀ (ns : List Int), RepAll K F (ns.map V.int) (ns.map eI.enc)
  | [] => .nil
  | n :: ns => .cons (.int n) (RepAll.ofInts ns)
theorem lx_sum {g : τ → List Int} (hc : X.calm = true) (hv : LVw S (it eI) g) (hm : X.mg "sum" = none) (ha : LO X G env a S e' f) (hG : ∀ p, G (e' p)) (hg : Gl X "sum" := by rfl) (he : starEach (a :: []) X.env = (false, eval a X.env) :: starEach [] X.env := by rfl) (hpl : (backTo pos (starEach [] X.env)).any (·.1) = false := by rfl) :
    LX X env (.Call (.Name "sum" np) [a] [] pos) (it eI) e' (fun k => f fun x p => k (g x).sum p) :=
  lx_b1t (E := eI) (g := fun x : τ => (g x).sum) (cr_sum hc) hm boot_sum ha hG (fun K F H fp v x Q hK s r q => by
    obtain ⟨p, vs, fps, rfl, h1, h2⟩ := hv.view s r
    have := h2.zero.2.ints
    subst this
    exact ⟨p, g x, rfl, by rw [← hK]; exact h1, q _ (.int _)⟩) hg (by decide) (by decide) he hpl
/-- the least, the greatest of a list of ints -/
def minI : List Int → Option Int
  | [] => none
  | x :: xs => some (xs.foldl min x)
def maxI : List Int → Option Int
  | [] => none
  | x :: xs => some (xs.foldl max x)
theorem foldl_min_le : ∀ (xs : List Int) (x : Int), xs.foldl min x ≤ x ∧ ∀ y ∈ xs, xs.foldl min x ≤ y
  | [], x => ⟨Int.le_refl x, fun _ m => nomatch m⟩
  | z :: xs, x => by
    obtain ⟨h1, h2⟩ := foldl_min_le xs (min x z)
    rw [List.foldl_cons]
    refine ⟨by omega, fun y m => ?_⟩
    rcases List.mem_cons.mp m with rfl | m
    · omega
    · exact h2 y m
theorem foldl_min_mem : ∀ (xs : List Int) (x : Int), xs.foldl min x = x ∨ xs.foldl min x ∈ xs
  | [], x => .inl rfl
  | z :: xs, x => by
    rw [List.foldl_cons]
    rcases foldl_min_mem xs (min x z) with h | h
    · by_cases c : x ≤ z
      · left; rw [h]; omega
      · right; rw [h, show min x z = z by omega]; exact List.mem_cons_self
    · exact .inr (List.mem_cons_of_mem _ h)
theorem foldl_max_le : ∀ (xs : List Int) (x : Int), x ≤ xs.foldl max x ∧ ∀ y ∈ xs, y ≤ xs.foldl max x
  | [], x => ⟨Int.le_refl x, fun _ m => nomatch m⟩
  | z :: xs, x => by
    obtain ⟨h1, h2⟩ := foldl_max_le xs (max x z)
    rw [List.foldl_cons]
    refine ⟨by omega, fun y m => ?_⟩
    rcases List.mem_cons.mp m with rfl | m
    · omega
    · exact h2 y m
theorem foldl_max_mem : ∀ (xs : List Int) (x : Int), xs.foldl max x = x ∨ xs.foldl max x ∈ xs
  | [], x => .inl rfl
  | z :: xs, x => by
    rw [List.foldl_cons]
    rcases foldl_max_mem xs (max x z) with h | h
    · by_cases c : z ≤ x
      · left; rw [h]; omega
      · right; rw [h, show max x z = z by omega]; exact List.mem_cons_self
    · exact .inr (List.mem_cons_of_mem _ h)
theorem minI_is {ns : List Int} {y m : Int} (h : minI ns = some y) (hm : m ∈ ns) (hle : ∀ z ∈ ns, m ≤ z) : m = y := by
  cases ns with
  | nil => cases h
  | cons x xs =>
    cases h
    obtain ⟨h1, h2⟩ := foldl_min_le xs x
    have a1 : xs.foldl min x ≤ m := by
      rcases List.mem_cons.mp hm with rfl | q
      · exact h1
      · exact h2 m q
    have a2 : m ≤ xs.foldl min x := by
      rcases foldl_min_mem xs x with q | q
      · rw [q]; exact hle x List.mem_cons_self
      · exact hle _ (List.mem_cons_of_mem _ q)
    omega
theorem maxI_is {ns : List Int} {y m : Int} (h : maxI ns = some y) (hm : m ∈ ns) (hle : ∀ z ∈ ns, z ≤ m) : m = y := by
  cases ns with
  | nil => cases h
  | cons x xs =>
    cases h
    obtain ⟨h1, h2⟩ := foldl_max_le xs x
    have a1 : m ≤ xs.foldl max x := by
      rcases List.mem_cons.mp hm with rfl | q
      · exact h1
      · exact h2 m q
    have a2 : xs.foldl max x ≤ m := by
      rcases foldl_max_mem xs x with q | q
      · rw [q]; exact hle x List.mem_cons_self
      · exact hle _ (List.mem_cons_of_mem _ q)
    omega
theorem lx_minI {g : τ → List Int} (hc : X.calm = true) (hv : LVw S (it eI) g) (hm : X.mg "min" = none) (ha : LO X G env a S e' f) (hG : ∀ p, G (e' p)) (hg : Gl X "min" := by rfl) (he : starEach (a :: []) X.env = (false, eval a X.env) :: starEach [] X.env := by rfl) (hpl : (backTo pos (starEach [] X.env)).any (·.1) = false := by rfl) :
    LX X env (.Call (.Name "min" np) [a] [] pos) (it eI) e' (fun k => f fun x p => (minI (g x)).bind fun y => k y p) :=
  lx_b1 (E := eI) (g := fun x : τ => minI (g x)) (cr_min hc) hm boot_min ha hG (fun K F H fp v x y Q hK s hy r q => by
    obtain ⟨p, vs, fps, rfl, h1, h2⟩ := hv.view s r
    have := h2.zero.2.ints
    subst this
    refine ⟨p, g x, rfl, by rw [← hK]; exact h1, ?_, fun m hmm hle => ?_⟩
    · cases hgx : g x with
      | nil => rw [hgx] at hy; cases hy
      | cons z zs => simp
    · rw [minI_is hy hmm hle]; exact q _ (.int _)) hg (by decide) (by decide) he hpl
theorem lx_maxI {g : τ → List Int} (hc : X.calm = true) (hv : LVw S (it eI) g) (hm : X.mg "max" = none) (ha : LO X G env a S e' f) (hG : ∀ p, G (e' p)) (hg : Gl X "max" := by rfl) (he : starEach (a :: []) X.env = (false, eval a X.env) :: starEach [] X.env := by rfl) (hpl : (backTo pos (starEach [] X.env)).any (·.1) = false := by rfl) :
    LX X env (.Call (.Name "max" np) [a] [] pos) (it eI) e' (fun k => f fun x p => (maxI (g x)).bind fun y => k y p) :=
  lx_b1 (E := eI) (g := fun x : τ => maxI (g x)) (cr_max hc) hm boot_max ha hG (fun K F H fp v x y Q hK s hy r q => by
    obtain ⟨p, vs, fps, rfl, h1, h2⟩ := hv.view s r
    have := h2.zero.2.ints
    subst this
    refine ⟨p, g x, rfl, by rw [← hK]; exact h1, ?_, fun m hmm hle => ?_⟩
    · cases hgx : g x with
      | nil => rw [hgx] at hy; cases hy
      | cons z zs => simp
    · rw [maxI_is hy hmm hle]; exact q _ (.int _)) hg (by decide) (by decide) he hpl
/-- list(xs) -/
theorem lx_listof (hv : LVw S (it Ea) g) (hm : X.mg "list" = none) (ha : LO X G env a S e' f) (hG : ∀ p, G (e' p)) (hg : Gl X "list" := by rfl) (he : starEach (a :: []) X.env = (false, eval a X.env) :: starEach [] X.env := by rfl) (hpl : (backTo pos (starEach [] X.env)).any (·.1) = false := by rfl) :
    LX X env (.Call (.Name "list" np) [a] [] pos) (ls (it Ea)) e' (fun k => f fun x p => k (g x) p) :=
  lx_y1n (E := Ea) (g := g) call_list_of hm PyProof.Rows.boot_list ha hG (fun K F H fp v x Q hK s r q => by
    obtain ⟨p, vs, fps, rfl, h1, h2⟩ := hv.view s r
    exact ⟨p, vs, rfl, .inl (by rw [← hK]; exact h1), fun l hl => q l vs hl h2.zero.2⟩) hg (by decide) (by decide) he hpl
end
end
end Z

set_option Elab.async false
set_option linter.all false
set_option maxRecDepth 100000
namespace Z
open PySem PySem.Spec PyProof.Rows L2

/-! ### kinds of data: depth, equality, order -/
structure Dt {τ : Type} (E : Enc τ) (n : Nat) : Prop where
  lay : ∀ x, (E.enc x).canLay0 = true
  dep : ∀ x, (E.enc x).depth ≤ n
theorem Dt.mono {τ : Type} {E : Enc τ} {n m : Nat} (h : Dt E n) (l : n ≤ m) : Dt E m := ⟨h.lay, fun x => Nat.le_trans (h.dep x) l⟩
theorem canLayAll_of : ∀ {ds : List PyData}, (∀ d ∈ ds, d.canLay0 = true) → PyData.canLayAll0 ds = true
  | [], _ => rfl
  | d :: ds, h => by
    unfold PyData.canLayAll0
    rw [h d List.mem_cons_self, canLayAll_of fun e m => h e (List.mem_cons_of_mem _ m)]; rfl
theorem depthAll_of : ∀ {ds : List PyData} {n : Nat}, (∀ d ∈ ds, d.depth ≤ n) → PyData.depthAll ds ≤ n
  | [], n, _ => by simp [PyData.depthAll]
  | d :: ds, n, h => by
    unfold PyData.depthAll
    have h1 := h d List.mem_cons_self
    have h2 := depthAll_of (ds := ds) (n := n) fun e m => h e (List.mem_cons_of_mem _ m)
    omega
theorem dtI : Dt eI 0 := ⟨fun _ => rfl, fun _ => by simp [eI, PyData.depth]⟩
theorem dtB : Dt eB 0 := ⟨fun _ => rfl, fun _ => by simp [eB, PyData.depth]⟩
theorem dtN : Dt eN 0 := ⟨fun _ => rfl, fun _ => by simp [eN, PyData.depth]⟩
theorem dtL {τ : Type} {E : Enc τ} {n : Nat} (h : Dt E n) : Dt (eL E) (n + 1) := ⟨fun x => by
  show PyData.canLay0 (.list _) = true
  rw [PyData.canLay0]
  exact canLayAll_of fun d m => by obtain ⟨y, _, rfl⟩ := List.mem_map.mp m; exact h.lay y, fun x => by
  show PyData.depth (.list _) ≤ n + 1
  rw [PyData.depth]
  have := depthAll_of (ds := x.map E.enc) (n := n) fun d m => by obtain ⟨y, _, rfl⟩ := List.mem_map.mp m; exact h.dep y
  omega⟩
theorem dtV {τ : Type} {E : Enc τ} {n : Nat} (h : Dt E n) : Dt (eV E) (n + 1) := ⟨fun x => by
  show PyData.canLay0 (.tuple _) = true
  rw [PyData.canLay0]
  exact canLayAll_of fun d m => by obtain ⟨y, _, rfl⟩ := List.mem_map.mp m; exact h.lay y, fun x => by
  show PyData.depth (.tuple _) ≤ n + 1
  rw [PyData.depth]
  have := depthAll_of (ds := x.map E.enc) (n := n) fun d m => by obtain ⟨y, _, rfl⟩ := List.mem_map.mp m; exact h.dep y
  omega⟩
theorem dt_tup {τ : Type} {E : Enc τ} {n : Nat} {ds : τ → List PyData} (he : ∀ x, E.enc x = .tuple (ds x)) (h1 : ∀ x, ∀ d ∈ ds x, d.canLay0 = true) (h2 : ∀ x, ∀ d ∈ ds x, d.depth ≤ n) : Dt E (n + 1) := ⟨fun x => by
  rw [he, PyData.canLay0]; exact canLayAll_of (h1 x), fun x => by
  rw [he, PyData.depth]
  have := depthAll_of (h2 x)
  omega⟩
section
variable {α β γ δ : Type} {A : Enc α} {B : Enc β} {G : Enc γ} {D : Enc δ} {n : Nat}
theorem dtT2 (a : Dt A n) (b : Dt B n) : Dt (eT2 A B) (n + 1) := dt_tup (ds := fun p => [A.enc p.1, B.enc p.2]) (fun _ => rfl) (fun x d m => by simp at m; rcases m with rfl | rfl; exact a.lay _; exact b.lay _) (fun x d m => by simp at m; rcases m with rfl | rfl; exact a.dep _; exact b.dep _)
theorem dtT3 (a : Dt A n) (b : Dt B n) (g : Dt G n) : Dt (eT3 A B G) (n + 1) := dt_tup (ds := fun p => [A.enc p.1, B.enc p.2.1, G.enc p.2.2]) (fun _ => rfl) (fun x d m => by simp at m; rcases m with rfl | rfl | rfl; exact a.lay _; exact b.lay _; exact g.lay _) (fun x d m => by simp at m; rcases m with rfl | rfl | rfl; exact a.dep _; exact b.dep _; exact g.dep _)
theorem dtT4 (a : Dt A n) (b : Dt B n) (g : Dt G n) (d4 : Dt D n) : Dt (eT4 A B G D) (n + 1) := dt_tup (ds := fun p => [A.enc p.1, B.enc p.2.1, G.enc p.2.2.1, D.enc p.2.2.2]) (fun _ => rfl) (fun x d m => by simp at m; rcases m with rfl | rfl | rfl | rfl; exact a.lay _; exact b.lay _; exact g.lay _; exact d4.lay _) (fun x d m => by simp at m; rcases m with rfl | rfl | rfl | rfl; exact a.dep _; exact b.dep _; exact g.dep _; exact d4.dep _)
end
/-- == of this kind is equality -/
structure Ev {τ : Type} [DecidableEq τ] (E : Enc τ) : Prop where
  eq : ∀ x y, PyData.eqv (E.enc x) (E.enc y) = decide (x = y)
theorem evI : Ev eI := ⟨fun x y => by simp [eI, PyData.eqv, Bool.beq_eq_decide_eq]⟩
theorem evB : Ev eB := ⟨fun x y => by simp [eB, PyData.eqv, Bool.beq_eq_decide_eq]⟩
theorem evN : Ev eN := ⟨fun x y => by simp [eN, PyData.eqv]⟩
theorem evS : Ev eS := ⟨fun x y => by simp only [eS, PyData.eqv]; exact Bool.beq_eq_decide_eq x y⟩
theorem eqvAll_map {τ : Type} [DecidableEq τ] {E : Enc τ} (h : Ev E) : ∀ (xs ys : List τ), PyData.eqvAll (xs.map E.enc) (ys.map E.enc) = decide (xs = ys)
  | [], [] => by simp [PyData.eqvAll]
  | [], _ :: _ => by simp [PyData.eqvAll]
  | _ :: _, [] => by simp [PyData.eqvAll]
  | x :: xs, y :: ys => by
    simp only [List.map_cons, PyData.eqvAll, h.eq, eqvAll_map h xs ys, List.cons.injEq, Bool.decide_and]
theorem evL {τ : Type} [DecidableEq τ] {E : Enc τ} (h : Ev E) : Ev (eL E) := ⟨fun x y => by simp only [eL, PyData.eqv]; exact eqvAll_map h x y⟩
theorem evV {τ : Type} [DecidableEq τ] {E : Enc τ} (h : Ev E) : Ev (eV E) := ⟨fun x y => by simp only [eV, PyData.eqv]; exact eqvAll_map h x y⟩
section
variable {α β γ δ : Type} [DecidableEq α] [DecidableEq β] [DecidableEq γ] [DecidableEq δ] {A : Enc α} {B : Enc β} {G : Enc γ} {D : Enc δ}
theorem evT2 (a : Ev A) (b : Ev B) : Ev (eT2 A B) := ⟨fun x y => by
  obtain ⟨x1, x2⟩ := x
  obtain ⟨y1, y2⟩ := y
  simp only [eT2, PyData.eqv, PyData.eqvAll, a.eq, b.eq, Bool.and_true, Prod.mk.injEq, Bool.decide_and]⟩
theorem evT3 (a : Ev A) (b : Ev B) (g : Ev G) : Ev (eT3 A B G) := ⟨fun x y => by
  obtain ⟨x1, x2, x3⟩ := x
  obtain ⟨y1, y2, y3⟩ := y
  simp only [eT3, PyData.eqv, PyData.eqvAll, a.eq, b.eq, g.eq, Bool.and_true, Prod.mk.injEq, Bool.decide_and]⟩
theorem evT4 (a : Ev A) (b : Ev B) (g : Ev G) (d : Ev D) : Ev (eT4 A B G D) := ⟨fun x y => by
  obtain ⟨x1, x2, x3, x4⟩ := x
  obtain ⟨y1, y2, y3, y4⟩ := y
  simp only [eT4, PyData.eqv, PyData.eqvAll, a.eq, b.eq, g.eq, d.eq, Bool.and_true, Prod.mk.injEq, Bool.decide_and]⟩
end
/-- an order: < of this kind -/
structure Od {τ : Type} (E : Enc τ) (lt : τ → τ → Bool) : Prop where
  lt : ∀ x y, PySem.W.dataLt (E.enc x) (E.enc y) = lt x y
  al : ∀ x y, PySem.W.alike (E.enc x) (E.enc y) = true
  nn : ∀ x, E.enc x ≠ .none
def ltI (x y : Int) : Bool := decide (x < y)
theorem odI : Od eI ltI := ⟨fun x y => by
  have h := PySem.W.minD_ints x [y]
  simp only [PySem.W.minD, List.map_cons, List.map_nil, List.foldl_cons, List.foldl_nil] at h
  have h2 := PySem.W.minD_ints y [x]
  simp only [PySem.W.minD, List.map_cons, List.map_nil, List.foldl_cons, List.foldl_nil] at h2
  show PySem.W.dataLt (.int x) (.int y) = _
  unfold ltI
  by_cases c : x < y
  · rw [decide_eq_true c]
    cases e : PySem.W.dataLt (.int x) (.int y) with
    | true => rfl
    | false =>
      rw [e] at h2
      simp at h2; omega
  · rw [decide_eq_false c]
    cases e : PySem.W.dataLt (.int x) (.int y) with
    | false => rfl
    | true =>
      rw [e] at h2
      simp at h2
      by_cases c2 : x = y
      · subst c2
        unfold PySem.W.dataLt at e
        rw [PyProof.Rows.lex_irrefl] at e
        cases e
      · omega, fun _ _ => rfl, fun _ h => by cases h⟩
section
variable {α β γ δ : Type} [DecidableEq α] [DecidableEq β] [DecidableEq γ] {A : Enc α} {B : Enc β} {G : Enc γ} {la : α → α → Bool} {lb : β → β → Bool} {lg : γ → γ → Bool}
theorem lt_cons {x y : PyData} {xs ys : List PyData} (h : PySem.W.alike x y = true) : PySem.W.dataLt (.tuple (x :: xs)) (.tuple (y :: ys)) = if PyData.eqv x y = true then PySem.W.dataLt (.tuple xs) (.tuple ys) else PySem.W.dataLt x y := by
  rw [PySem.W.dataLt_tuple, PySem.W.dataLt_tuple]
  cases e : PyData.eqv x y with
  | true => rw [if_pos rfl]; exact PySem.W.dataLt_all_yes h e
  | false => rw [if_neg Bool.false_ne_true]; exact PySem.W.dataLt_all_no h e
def lt2 (la : α → α → Bool) (lb : β → β → Bool) (x y : α × β) : Bool := if x.1 = y.1 then lb x.2 y.2 else la x.1 y.1
def lt3 (la : α → α → Bool) (lb : β → β → Bool) (lg : γ → γ → Bool) (x y : α × β × γ) : Bool := if x.1 = y.1 then (if x.2.1 = y.2.1 then lg x.2.2 y.2.2 else lb x.2.1 y.2.1) else la x.1 y.1
theorem lt_one {x y : PyData} (h : PySem.W.alike x y = true) : PySem.W.dataLt (.tuple [x]) (.tuple [y]) = PySem.W.dataLt x y := by
  rw [lt_cons h]
  cases e : PyData.eqv x y with
  | false => rw [if_neg Bool.false_ne_true]
  | true =>
    rw [if_pos rfl]
    have := (PySem.W.toks_eqv x y h).1 e
    unfold PySem.W.dataLt
    rw [this, PyProof.Rows.lex_irrefl, PyProof.Rows.lex_irrefl]
theorem odT2 (ea : Ev A) (a : Od A la) (b : Od B lb) : Od (eT2 A B) (lt2 la lb) := ⟨fun x y => by
  obtain ⟨x1, x2⟩ := x
  obtain ⟨y1, y2⟩ := y
  show PySem.W.dataLt (.tuple [A.enc x1, B.enc x2]) (.tuple [A.enc y1, B.enc y2]) = _
  rw [lt_cons (a.al _ _), lt_one (b.al _ _), ea.eq, a.lt, b.lt]
  unfold lt2
  simp only [decide_eq_true_eq], fun x y => by
  obtain ⟨x1, x2⟩ := x
  obtain ⟨y1, y2⟩ := y
  show PySem.W.alike (.tuple [A.enc x1, B.enc x2]) (.tuple [A.enc y1, B.enc y2]) = true
  simp only [PySem.W.alike, PySem.W.alikeAll, a.al, b.al, Bool.and_self], fun _ h => by cases h⟩
theorem odT3 (ea : Ev A) (eb : Ev B) (a : Od A la) (b : Od B lb) (g : Od G lg) : Od (eT3 A B G) (lt3 la lb lg) := ⟨fun x y => by
  obtain ⟨x1, x2, x3⟩ := x
  obtain ⟨y1, y2, y3⟩ := y
  show PySem.W.dataLt (.tuple [A.enc x1, B.enc x2, G.enc x3]) (.tuple [A.enc y1, B.enc y2, G.enc y3]) = _
  rw [lt_cons (a.al _ _), lt_cons (b.al _ _), lt_one (g.al _ _), ea.eq, eb.eq, a.lt, b.lt, g.lt]
  unfold lt3
  simp only [decide_eq_true_eq], fun x y => by
  obtain ⟨x1, x2, x3⟩ := x
  obtain ⟨y1, y2, y3⟩ := y
  show PySem.W.alike (.tuple [A.enc x1, B.enc x2, G.enc x3]) (.tuple [A.enc y1, B.enc y2, G.enc y3]) = true
  simp only [PySem.W.alike, PySem.W.alikeAll, a.al, b.al, g.al, Bool.and_self], fun _ h => by cases h⟩
end

/-! ### data as the layer's rules read them -/
mutual
theorem Rep.dp {K : Fg} {F H : Hp} (s : Same F H) : ∀ {v : V} {d : PyData}, Rep K F v d → d.canLay0 = true → Dp K H v d
  | _, _, .non, _ => .non
  | _, _, .bl b, _ => .bl b
  | _, _, .int i, _ => .int i
  | _, _, .str x, _ => .str x
  | _, _, .lst h r, c => .lst (SqL.of (s _ _ h)) (RepAll.dp s r (by rwa [PyData.canLay0] at c))
  | _, _, .tup h r, c => .tup (same_sqT s h) (RepAll.dp s r (by rwa [PyData.canLay0] at c))
  | _, _, .dK h r, c => by rw [PyData.canLay0] at c; cases c
  | _, _, .dT h r, c => by rw [PyData.canLay0] at c; cases c
theorem RepAll.dp {K : Fg} {F H : Hp} (s : Same F H) : ∀ {vs : List V} {ds : List PyData}, RepAll K F vs ds → PyData.canLayAll0 ds = true → DpAll K H vs ds
  | _, _, .nil, _ => .nil
  | _, _, .cons h r, c => by
    rw [PyData.canLayAll0] at c
    have c' := Bool.and_eq_true_iff.mp c
    exact .cons (Rep.dp s h c'.1) (RepAll.dp s r c'.2)
end
structure Dv {τ : Type} (S : Stor τ) (E : Enc τ) : Prop where
  dp : ∀ {K : Fg} {F H : Hp} {fp : List Addr} {v : V} {x : τ}, Same F H → (E.enc x).canLay0 = true → S.rel K F H fp v x → Dp K H v (E.enc x)
section
variable {τ τ1 τ2 α β : Type} {S : Stor τ} {S1 : Stor τ1} {S2 : Stor τ2} {E : Enc τ} {E1 : Enc τ1} {E2 : Enc τ2}
theorem dv_it : Dv (it E) E := ⟨fun s c r => r.2.dp s c⟩
theorem RelAll.dps {K : Fg} {H : Hp} {R : List Addr → V → τ → Prop} : ∀ {fp : List Addr} {vs : List V} {xs : List τ}, (∀ fq v x, R fq v x → (E.enc x).canLay0 = true → Dp K H v (E.enc x)) → PyData.canLayAll0 (xs.map E.enc) = true → RelAll R fp vs xs → DpAll K H vs (xs.map E.enc)
  | _, _, _, _, _, .nil => .nil
  | _, _, _, f, c, .cons h r => by
    rw [List.map_cons, PyData.canLayAll0] at c
    have c' := Bool.and_eq_true_iff.mp c
    exact .cons (f _ _ _ h c'.1) (RelAll.dps f c'.2 r)
theorem dv_ls (d : Dv S E) : Dv (ls S) (eL E) := ⟨fun {K F H fp v x} s c r => by
  obtain ⟨p, vs, fps, rfl, h, ra, rfl⟩ := r
  have c' : PyData.canLayAll0 (x.map E.enc) = true := by
    have : PyData.canLay0 (.list (x.map E.enc)) = true := c
    rwa [PyData.canLay0] at this
  exact .lst (SqL.of h) (ra.dps (fun _ _ _ q c => d.dp s c q) c')⟩
theorem shaped_of {d : PyData} (h1 : d.canLay0 = true) (h2 : d.depth ≤ 64) : SeqAt.shaped d = true := by
  unfold SeqAt.shaped
  rw [h1, decide_eq_true h2]; rfl
variable {X : Cx} {Ω : Type} {env : Env} {nm : Str} {pos np : Pos} {a b : Expr} {P P1 P2 : Type} {G : Env → Prop} {G1 : Env → Prop} {G2 : P1 → Env → Prop} {e' : P → Env} {e1 : P1 → Env} {e2 : P1 → P2 → Env} {fa : (τ1 → P1 → Option Ω) → Option Ω} {fb : P1 → (τ2 → P2 → Option Ω) → Option Ω}
/-- == of data of two kinds -/
theorem lc_eqD {n m : Nat} (hu : X.A.units + 64 < cLine) (d1 : Dv S1 E1) (d2 : Dv S2 E2) (t1 : Dt E1 n) (t2 : Dt E2 m) (ha : LO X G1 env a S1 e1 fa) (hb : ∀ p1, LO X (G2 p1) (e1 p1) b S2 (e2 p1) (fb p1)) (g1 : ∀ p1 p2, G1 (e2 p1 p2)) (g2 : ∀ p1 p2, G2 p1 (e2 p1 p2)) (hn : n ≤ 64 := by decide) (hm : m ≤ 64 := by decide) :
    LC X env .Eq a b (fun p : P1 × P2 => e2 p.1 p.2) (fun k => fa fun x p1 => fb p1 fun y p2 => k (PyData.eqv (E1.enc x) (E2.enc y)) (p1, p2)) :=
  lc_cmp (op_eqD hu) ha hb g1 g2 fun K F H fp fq v u x y Q hK s r1 r2 q => by
    subst hK
    exact ⟨_, _, d1.dp s (t1.lay x) r1, d2.dp s (t2.lay y) r2, shaped_of (t1.lay x) (Nat.le_trans (t1.dep x) hn), shaped_of (t2.lay y) (Nat.le_trans (t2.dep y) hm), q⟩
theorem lc_neD {n m : Nat} (hu : X.A.units + 64 < cLine) (d1 : Dv S1 E1) (d2 : Dv S2 E2) (t1 : Dt E1 n) (t2 : Dt E2 m) (ha : LO X G1 env a S1 e1 fa) (hb : ∀ p1, LO X (G2 p1) (e1 p1) b S2 (e2 p1) (fb p1)) (g1 : ∀ p1 p2, G1 (e2 p1 p2)) (g2 : ∀ p1 p2, G2 p1 (e2 p1 p2)) (hn : n ≤ 64 := by decide) (hm : m ≤ 64 := by decide) :
    LC X env .NotEq a b (fun p : P1 × P2 => e2 p.1 p.2) (fun k => fa fun x p1 => fb p1 fun y p2 => k (!PyData.eqv (E1.enc x) (E2.enc y)) (p1, p2)) :=
  lc_cmp (op_neD hu) ha hb g1 g2 fun K F H fp fq v u x y Q hK s r1 r2 q => by
    subst hK
    exact ⟨_, _, d1.dp s (t1.lay x) r1, d2.dp s (t2.lay y) r2, shaped_of (t1.lay x) (Nat.le_trans (t1.dep x) hn), shaped_of (t2.lay y) (Nat.le_trans (t2.dep y) hm), q⟩
/-- .. of any data, with a check -/
theorem lc_eqC (hu : X.A.units + 64 < cLine) (d1 : Dv S1 E1) (d2 : Dv S2 E2) (ha : LO X G1 env a S1 e1 fa) (hb : ∀ p1, LO X (G2 p1) (e1 p1) b S2 (e2 p1) (fb p1)) (g1 : ∀ p1 p2, G1 (e2 p1 p2)) (g2 : ∀ p1 p2, G2 p1 (e2 p1 p2)) :
    LC X env .Eq a b (fun p : P1 × P2 => e2 p.1 p.2) (fun k => fa fun x p1 => fb p1 fun y p2 => ck (SeqAt.shaped (E1.enc x) && SeqAt.shaped (E2.enc y)) (k (PyData.eqv (E1.enc x) (E2.enc y)) (p1, p2))) :=
  lc_cmpC (c := fun x y => SeqAt.shaped (E1.enc x) && SeqAt.shaped (E2.enc y)) (op_eqD hu) ha hb g1 g2 fun K F H fp fq v u x y Q hK s hc r1 r2 q => by
    subst hK
    obtain ⟨c1, c2⟩ := Bool.and_eq_true_iff.mp hc
    exact ⟨_, _, d1.dp s (SeqAt.canLay_of_shaped c1) r1, d2.dp s (SeqAt.canLay_of_shaped c2) r2, c1, c2, q⟩
theorem lc_neC (hu : X.A.units + 64 < cLine) (d1 : Dv S1 E1) (d2 : Dv S2 E2) (ha : LO X G1 env a S1 e1 fa) (hb : ∀ p1, LO X (G2 p1) (e1 p1) b S2 (e2 p1) (fb p1)) (g1 : ∀ p1 p2, G1 (e2 p1 p2)) (g2 : ∀ p1 p2, G2 p1 (e2 p1 p2)) :
    LC X env .NotEq a b (fun p : P1 × P2 => e2 p.1 p.2) (fun k => fa fun x p1 => fb p1 fun y p2 => ck (SeqAt.shaped (E1.enc x) && SeqAt.shaped (E2.enc y)) (k (!PyData.eqv (E1.enc x) (E2.enc y)) (p1, p2))) :=
  lc_cmpC (c := fun x y => SeqAt.shaped (E1.enc x) && SeqAt.shaped (E2.enc y)) (op_neD hu) ha hb g1 g2 fun K F H fp fq v u x y Q hK s hc r1 r2 q => by
    subst hK
    obtain ⟨c1, c2⟩ := Bool.and_eq_true_iff.mp hc
    exact ⟨_, _, d1.dp s (SeqAt.canLay_of_shaped c1) r1, d2.dp s (SeqAt.canLay_of_shaped c2) r2, c1, c2, q⟩
theorem lc_eqT [DecidableEq τ1] {S2 : Stor τ1} {fb : P1 → (τ1 → P2 → Option Ω) → Option Ω} {n : Nat} (hu : X.A.units + 64 < cLine) (d1 : Dv S1 E1) (d2 : Dv S2 E1) (t : Dt E1 n) (ev : Ev E1) (ha : LO X G1 env a S1 e1 fa) (hb : ∀ p1, LO X (G2 p1) (e1 p1) b S2 (e2 p1) (fb p1)) (g1 : ∀ p1 p2, G1 (e2 p1 p2)) (g2 : ∀ p1 p2, G2 p1 (e2 p1 p2)) (hn : n ≤ 64 := by decide) :
    LC X env .Eq a b (fun p : P1 × P2 => e2 p.1 p.2) (fun k => fa fun x p1 => fb p1 fun y p2 => k (decide (x = y)) (p1, p2)) :=
  lc_cmp (op_eqD hu) ha hb g1 g2 fun K F H fp fq v u x y Q hK s r1 r2 q => by
    subst hK
    exact ⟨_, _, d1.dp s (t.lay x) r1, d2.dp s (t.lay y) r2, shaped_of (t.lay x) (Nat.le_trans (t.dep x) hn), shaped_of (t.lay y) (Nat.le_trans (t.dep y) hn), by rw [ev.eq]; exact q⟩
theorem lc_neT [DecidableEq τ1] {S2 : Stor τ1} {fb : P1 → (τ1 → P2 → Option Ω) → Option Ω} {n : Nat} (hu : X.A.units + 64 < cLine) (d1 : Dv S1 E1) (d2 : Dv S2 E1) (t : Dt E1 n) (ev : Ev E1) (ha : LO X G1 env a S1 e1 fa) (hb : ∀ p1, LO X (G2 p1) (e1 p1) b S2 (e2 p1) (fb p1)) (g1 : ∀ p1 p2, G1 (e2 p1 p2)) (g2 : ∀ p1 p2, G2 p1 (e2 p1 p2)) (hn : n ≤ 64 := by decide) :
    LC X env .NotEq a b (fun p : P1 × P2 => e2 p.1 p.2) (fun k => fa fun x p1 => fb p1 fun y p2 => k (!decide (x = y)) (p1, p2)) :=
  lc_cmp (op_neD hu) ha hb g1 g2 fun K F H fp fq v u x y Q hK s r1 r2 q => by
    subst hK
    exact ⟨_, _, d1.dp s (t.lay x) r1, d2.dp s (t.lay y) r2, shaped_of (t.lay x) (Nat.le_trans (t.dep x) hn), shaped_of (t.lay y) (Nat.le_trans (t.dep y) hn), by rw [ev.eq]; exact q⟩
/-- is None, is not None -/
def isNone (d : PyData) : Bool := match d with
  | .none => true
  | _ => false
theorem enc_none {v : V} {K : Fg} {F : Hp} {d : PyData} (h : Rep K F v d) : decide (v = .non) = isNone d := by
  cases h <;> simp [isNone]
theorem lc_isN {fp1 : (τ1 → P1 → Option Ω) → Option Ω} {j : Nat} {cp : Pos} (ha : LX X env a (it E1) e1 fp1) : LC X env .Is a (.Constant .none j cp) (fun p : P1 × Unit => e1 p.1) (fun k => fp1 fun x p1 => k (isNone (E1.enc x)) (p1, ())) :=
  lc_cmp (g := fun x _ => isNone (E1.enc x)) op_isN (lo_of ha) (fun p1 => lo_of (lx_non (env := e1 p1))) (fun _ _ => trivial) (fun _ _ => trivial) fun K F H fp fq v u x y Q hK s r1 r2 q => by
    obtain ⟨_, r1⟩ := r1
    obtain ⟨_, r2⟩ := r2
    have r2' : Rep K F u .none := r2
    cases r2'
    exact ⟨rfl, by rw [enc_none r1]; exact q⟩
theorem lc_notN {fp1 : (τ1 → P1 → Option Ω) → Option Ω} {j : Nat} {cp : Pos} (ha : LX X env a (it E1) e1 fp1) : LC X env .IsNot a (.Constant .none j cp) (fun p : P1 × Unit => e1 p.1) (fun k => fp1 fun x p1 => k (!isNone (E1.enc x)) (p1, ())) :=
  lc_cmp (g := fun x _ => !isNone (E1.enc x)) op_notN (lo_of ha) (fun p1 => lo_of (lx_non (env := e1 p1))) (fun _ _ => trivial) (fun _ _ => trivial) fun K F H fp fq v u x y Q hK s r1 r2 q => by
    obtain ⟨_, r1⟩ := r1
    obtain ⟨_, r2⟩ := r2
    have r2' : Rep K F u .none := r2
    cases r2'
    exact ⟨rfl, by rw [enc_none r1]; exact q⟩

/-! ### min, max, sorted of lists of data -/
def rMinD (K : Fg) : List V → Hp → VK → Prop := fun vs H Q => ∃ (p : Addr) (its : List V) (x : PyData) (xs : List PyData), vs = [.ref p] ∧ SqL K H p its ∧ DpAll K H its (x :: xs) ∧ PyData.canLayAll0 (x :: xs) = true ∧ PySem.W.AlikeAll (x :: xs) ∧ PyData.depthAll (x :: xs) ≤ 60 ∧
  ∀ (i : Nat) (v : V), its[i]? = some v → (x :: xs)[i]? = some (PySem.W.minD x xs) → Q v H
def rMaxD (K : Fg) : List V → Hp → VK → Prop := fun vs H Q => ∃ (p : Addr) (its : List V) (x : PyData) (xs : List PyData), vs = [.ref p] ∧ SqL K H p its ∧ DpAll K H its (x :: xs) ∧ PyData.canLayAll0 (x :: xs) = true ∧ PySem.W.AlikeAll (x :: xs) ∧ PyData.depthAll (x :: xs) ≤ 60 ∧
  ∀ (i : Nat) (v : V), its[i]? = some v → (x :: xs)[i]? = some (PySem.W.maxD x xs) → Q v H
theorem canLay_get : ∀ {ds : List PyData} {i : Nat} {d : PyData}, PyData.canLayAll0 ds = true → ds[i]? = some d → d.canLay0 = true
  | [], _, _, _, e => by simp at e
  | d :: ds, 0, _, c, e => by
    rw [PyData.canLayAll0] at c
    simp at e; subst e
    exact (Bool.and_eq_true_iff.mp c).1
  | d :: ds, i + 1, _, c, e => by
    rw [PyData.canLayAll0] at c
    exact canLay_get (Bool.and_eq_true_iff.mp c).2 (by simpa using e)
theorem readsAll_get {h : Heap} : ∀ {us : List Value} {ds : List PyData} {as : List Addr} {i : Nat} {u : Value}, ReadsAll h us ds as → us[i]? = some u → ∃ d bs, ds[i]? = some d ∧ Reads h u d bs
  | _, _, _, _, _, .nil, e => by simp at e
  | _, _, _, 0, _, .cons r _, e => by simp at e; subst e; exact ⟨_, _, rfl, r⟩
  | _, _, _, i + 1, _, .cons _ r, e => by
    obtain ⟨d, bs, h1, h2⟩ := readsAll_get (i := i) r (by simpa using e)
    exact ⟨d, bs, by simpa using h1, h2⟩
theorem cr_minD (hc : X.calm = true) (hu : X.A.units + 64 < cLine) : CallR X (.builtin "min") (rMinD X.K) := by
  intro pins s σ H vs us Q I r h
  obtain ⟨p, its, x, xs, rfl, hs, hd, hl0, hal, hdep, q⟩ := h
  obtain ⟨uts, rv, pl, hz⟩ := I.list hs
  rw [Vals.ref1 r]
  obtain ⟨as, hr⟩ := Dp.readsAll I (x :: xs) its uts hd rv
  refine PySem.W.min_list_data (I.ok.hd hc) pl.isList hr hal (by omega) fun i u h' tk bs hi hr' hk => ?_
  have hi' : uts[i]? = some u := by simpa using hi
  obtain ⟨d, cs, e1, r1⟩ := readsAll_get hr hi'
  have r1' := PyProof.Rows.Reads.keeps hk r1
  have e2 : d = PySem.W.minD x xs := PySem.SeqAt.Reads.unique d _ u _ _ (canLay_get hl0 e1) r1' hr'
  have hlen := rv.length
  have hi2 : i < its.length := by
    have := (List.getElem?_eq_some_iff.mp hi').1
    omega
  obtain ⟨w, hw, rw'⟩ := Vals.get rv (List.getElem?_eq_getElem hi2)
  rw [hi'] at hw; cases hw
  exact ⟨_, H, I.kept hk, rw', q i _ (List.getElem?_eq_getElem hi2) (by rw [e1, e2])⟩
theorem cr_maxD (hc : X.calm = true) (hu : X.A.units + 64 < cLine) : CallR X (.builtin "max") (rMaxD X.K) := by
  intro pins s σ H vs us Q I r h
  obtain ⟨p, its, x, xs, rfl, hs, hd, hl0, hal, hdep, q⟩ := h
  obtain ⟨uts, rv, pl, hz⟩ := I.list hs
  rw [Vals.ref1 r]
  obtain ⟨as, hr⟩ := Dp.readsAll I (x :: xs) its uts hd rv
  refine PySem.W.max_list_data (I.ok.hd hc) pl.isList hr hal (by omega) fun i u h' tk bs hi hr' hk => ?_
  have hi' : uts[i]? = some u := by simpa using hi
  obtain ⟨d, cs, e1, r1⟩ := readsAll_get hr hi'
  have r1' := PyProof.Rows.Reads.keeps hk r1
  have e2 : d = PySem.W.maxD x xs := PySem.SeqAt.Reads.unique d _ u _ _ (canLay_get hl0 e1) r1' hr'
  have hlen := rv.length
  have hi2 : i < its.length := by
    have := (List.getElem?_eq_some_iff.mp hi').1
    omega
  obtain ⟨w, hw, rw'⟩ := Vals.get rv (List.getElem?_eq_getElem hi2)
  rw [hi'] at hw; cases hw
  exact ⟨_, H, I.kept hk, rw', q i _ (List.getElem?_eq_getElem hi2) (by rw [e1, e2])⟩
/-- the first least, the first greatest, by < -/
def minB {α : Type} (lt : α → α → Bool) : List α → Option α
  | [] => none
  | x :: xs => some (xs.foldl (fun a y => if lt y a = true then y else a) x)
def maxB {α : Type} (lt : α → α → Bool) : List α → Option α
  | [] => none
  | x :: xs => some (xs.foldl (fun a y => if lt a y = true then y else a) x)
theorem minD_enc {E : Enc α} {lt : α → α → Bool} (od : Od E lt) : ∀ (xs : List α) (x : α), PySem.W.minD (E.enc x) (xs.map E.enc) = E.enc (xs.foldl (fun a y => if lt y a = true then y else a) x)
  | [], x => rfl
  | y :: xs, x => by
    show List.foldl _ (if PySem.W.dataLt (E.enc y) (E.enc x) = true then E.enc y else E.enc x) (xs.map E.enc) = _
    rw [od.lt, List.foldl_cons]
    have := minD_enc od xs (if lt y x = true then y else x)
    unfold PySem.W.minD at this
    rw [← this]
    congr 1
    cases lt y x <;> simp
theorem maxD_enc {E : Enc α} {lt : α → α → Bool} (od : Od E lt) : ∀ (xs : List α) (x : α), PySem.W.maxD (E.enc x) (xs.map E.enc) = E.enc (xs.foldl (fun a y => if lt a y = true then y else a) x)
  | [], x => rfl
  | y :: xs, x => by
    show List.foldl _ (if PySem.W.dataLt (E.enc x) (E.enc y) = true then E.enc y else E.enc x) (xs.map E.enc) = _
    rw [od.lt, List.foldl_cons]
    have := maxD_enc od xs (if lt x y = true then y else x)
    unfold PySem.W.maxD at this
    rw [← this]
    congr 1
    cases lt x y <;> simp
theorem od_all {E : Enc α} {lt : α → α → Bool} (od : Od E lt) (xs : List α) : PySem.W.AlikeAll (xs.map E.enc) := ⟨fun x hx y hy => by
  obtain ⟨a, _, rfl⟩ := List.mem_map.mp hx
  obtain ⟨b, _, rfl⟩ := List.mem_map.mp hy
  exact od.al a b, fun x hx => by
  obtain ⟨a, _, rfl⟩ := List.mem_map.mp hx
  exact od.nn a⟩
section
variable {E : Enc α} {lt : α → α → Bool} {g : τ → List α} {f : (τ → P → Option Ω) → Option Ω} {n : Nat}
theorem dts {E : Enc α} (dt : Dt E n) (xs : List α) : PyData.canLayAll0 (xs.map E.enc) = true ∧ PyData.depthAll (xs.map E.enc) ≤ n :=
  ⟨canLayAll_of fun d m => by obtain ⟨y, _, rfl⟩ := List.mem_map.mp m; exact dt.lay y, depthAll_of fun d m => by obtain ⟨y, _, rfl⟩ := List.mem_map.mp m; exact dt.dep y⟩
theorem lx_minD (hc : X.calm = true) (hu : X.A.units + 64 < cLine) (od : Od E lt) (dt : Dt E n) (hv : LVw S (it E) g) (hm : X.mg "min" = none) (ha : LO X G env a S e' f) (hG : ∀ p, G (e' p)) (hn : n ≤ 60 := by decide) (hg : Gl X "min" := by rfl) (he : starEach (a :: []) X.env = (false, eval a X.env) :: starEach [] X.env := by rfl) (hpl : (backTo pos (starEach [] X.env)).any (·.1) = false := by rfl) :
    LX X env (.Call (.Name "min" np) [a] [] pos) (it E) e' (fun k => f fun x p => (minB lt (g x)).bind fun y => k y p) :=
  lx_b1 (E := E) (g := fun x : τ => minB lt (g x)) (cr_minD hc hu) hm boot_min ha hG (fun K F H fp v x y Q hK s hy r q => by
    subst hK
    obtain ⟨p, vs, fps, rfl, h1, h2⟩ := hv.view s r
    have rp := h2.zero.2
    cases hgx : g x with
    | nil => rw [hgx] at hy; cases hy
    | cons z zs =>
      rw [hgx] at hy rp
      have hy' : y = zs.foldl (fun a y => if lt y a = true then y else a) z := (Option.some.inj hy).symm
      have hd := dts dt (z :: zs)
      refine ⟨p, vs, E.enc z, zs.map E.enc, rfl, h1, rp.dp s hd.1, hd.1, od_all od (z :: zs), Nat.le_trans hd.2 hn, fun i v hi hv => ?_⟩
      rw [minD_enc od, ← hy'] at hv
      obtain ⟨w, hw, rr⟩ := rp.get (i := i) (d := E.enc y) (by rw [← hv]; rfl)
      rw [hi] at hw; cases hw
      exact q _ rr) hg (by decide) (by decide) he hpl
theorem lx_maxD (hc : X.calm = true) (hu : X.A.units + 64 < cLine) (od : Od E lt) (dt : Dt E n) (hv : LVw S (it E) g) (hm : X.mg "max" = none) (ha : LO X G env a S e' f) (hG : ∀ p, G (e' p)) (hn : n ≤ 60 := by decide) (hg : Gl X "max" := by rfl) (he : starEach (a :: []) X.env = (false, eval a X.env) :: starEach [] X.env := by rfl) (hpl : (backTo pos (starEach [] X.env)).any (·.1) = false := by rfl) :
    LX X env (.Call (.Name "max" np) [a] [] pos) (it E) e' (fun k => f fun x p => (maxB lt (g x)).bind fun y => k y p) :=
  lx_b1 (E := E) (g := fun x : τ => maxB lt (g x)) (cr_maxD hc hu) hm boot_max ha hG (fun K F H fp v x y Q hK s hy r q => by
    subst hK
    obtain ⟨p, vs, fps, rfl, h1, h2⟩ := hv.view s r
    have rp := h2.zero.2
    cases hgx : g x with
    | nil => rw [hgx] at hy; cases hy
    | cons z zs =>
      rw [hgx] at hy rp
      have hy' : y = zs.foldl (fun a y => if lt a y = true then y else a) z := (Option.some.inj hy).symm
      have hd := dts dt (z :: zs)
      refine ⟨p, vs, E.enc z, zs.map E.enc, rfl, h1, rp.dp s hd.1, hd.1, od_all od (z :: zs), Nat.le_trans hd.2 hn, fun i v hi hv => ?_⟩
      rw [maxD_enc od, ← hy'] at hv
      obtain ⟨w, hw, rr⟩ := rp.get (i := i) (d := E.enc y) (by rw [← hv]; rfl)
      rw [hi] at hw; cases hw
      exact q _ rr) hg (by decide) (by decide) he hpl
end
end
end Z

set_option Elab.async false
set_option linter.all false
set_option maxRecDepth 100000
namespace Z
open PySem PySem.Spec PyProof.Rows L2

/-- a slice, as the layer cuts it -/
def cutL {α : Type} (xs : List α) (lo hi : Option Int) : List α := (xs.drop (HT.sIx xs.length 0 lo)).take (HT.sIx xs.length xs.length hi - HT.sIx xs.length 0 lo)
section
variable {X : Cx} {Ω : Type} {env : Env} {nm : Str} {pos np sp : Pos} {a b c : Expr} {P P1 P2 P3 : Type} {τ τ1 τ2 α β : Type} {S : Stor τ} {S1 : Stor τ1} {S2 : Stor τ2} {E : Enc α} {Eb : Enc β} {G : Env → Prop} {G1 : Env → Prop} {G2 : P1 → Env → Prop} {e' : P → Env} {e1 : P1 → Env} {e2 : P1 → P2 → Env} {e3 : P1 → P2 → P3 → Env}
  {fa : (τ1 → P1 → Option Ω) → Option Ω} {fb : P1 → (τ2 → P2 → Option Ω) → Option Ω} {g1 : τ1 → List α} {g2 : τ2 → List α}
/-- xs + ys -/
theorem lx_cat (hv1 : LVm S1 (it E) g1) (hv2 : LVm S2 (it E) g2) (ha : LO X G1 env a S1 e1 fa) (hb : ∀ p1, LO X (G2 p1) (e1 p1) b S2 (e2 p1) (fb p1)) (h1 : ∀ p1 p2, G1 (e2 p1 p2)) (h2 : ∀ p1 p2, G2 p1 (e2 p1 p2)) :
    LX X env (.BinOp a .Add b pos) (ls (it E)) (fun p : P1 × P2 => e2 p.1 p.2) (fun k => fa fun x p1 => fb p1 fun y p2 => ck (decide ((g1 x).length + (g2 y).length ≤ SZ)) (k (g1 x ++ g2 y) (p1, p2))) :=
  fun C F H σs es σ k ω Q hK hl h hk q => tE.of X (pe_op op_cat (peC X) (peC X)) (op2_run ha hb h1 h2 hK hl h hk fun x p1 y p2 v u F' H' fp fq hk' h' r1 r2 => by
    obtain ⟨hc, hk'⟩ := ck_some hk'
    obtain ⟨p, vs, fps, rfl, l1, ra⟩ := hv1.view h'.sF r1
    obtain ⟨p', ws, fqs, rfl, l2, rb⟩ := hv2.view h'.sF r2
    have hc' := of_decide_eq_true hc
    have n1 := ra.length
    have n2 := rb.length
    refine ⟨p, p', vs, ws, rfl, rfl, l1, l2, by rw [SZ_eq]; omega, fun t nt => ?_⟩
    refine q (g1 x ++ g2 y) (p1, p2) (.ref t) F' _ hk' (h'.newOw nt ⟨t, vs ++ ws, [], rfl, upd_same, ?_, rfl⟩)
    have := ra.zero.2.app rb.zero.2
    rw [← List.map_append] at this
    exact this.zero)
theorem RepAll.cut {K : Fg} {F : Hp} {vs : List V} {xs : List α} (lo hi : Option Int) (h : RepAll K F vs (xs.map E.enc)) : RepAll K F (cutV vs lo hi) ((cutL xs lo hi).map E.enc) := by
  have hl : vs.length = xs.length := by have := h.length; simpa using this
  unfold cutV cutL
  rw [hl, List.map_take, List.map_drop]
  exact (h.drop _).take _
/-- xs[i:j] -/
theorem lx_sl2 {fi : P1 → (Int → P2 → Option Ω) → Option Ω} {fj : P1 → P2 → (Int → P3 → Option Ω) → Option Ω} (hv : LVw S1 (it E) g1) (ha : LX X env a S1 e1 fa) (hi : ∀ p1, LX X (e1 p1) b (it eI) (e2 p1) (fi p1)) (hj : ∀ p1 p2, LX X (e2 p1 p2) c (it eI) (e3 p1 p2) (fj p1 p2)) :
    LX X env (.Subscript a (.Slice (some b) (some c) none sp) pos) (ls (it E)) (fun p : P1 × P2 × P3 => e3 p.1 p.2.1 p.2.2) (fun k => fa fun x p1 => fi p1 fun i p2 => fj p1 p2 fun j p3 => k (cutL (g1 x) (some i) (some j)) (p1, p2, p3)) :=
  fun C F H σs es σ k ω Q hK hl h hk q => tE.of X (pe_slice sl_list (peC X) (po_some (peC X)) (po_some (peC X))) (ha C F H σs es σ _ ω _ hK hl h hk fun x p1 v F1 H1 hk1 h1 => by
    refine hi p1 C F1 H1 (some v :: σs) (.st none τ1 S1 x :: es) σ _ ω _ hK (by simp [hl]) h1 hk1 fun i p2 u F2 H2 hk2 h2 => ?_
    have hu : u = .int i := by
      obtain ⟨v', fp, e1, r⟩ := h2.look (i := 0) rfl
      simp at e1; subst e1
      obtain ⟨_, r⟩ := r
      cases r; rfl
    subst hu
    refine ⟨i, rfl, hj p1 p2 C F2 H2 (some v :: σs) (.st none τ1 S1 x :: es) σ _ ω _ hK (by simp [hl]) h2.pop hk2 fun j p3 u F3 H3 hk3 h3 => ?_⟩
    have hu : u = .int j := by
      obtain ⟨v', fp, e1, r⟩ := h3.look (i := 0) rfl
      simp at e1; subst e1
      obtain ⟨_, r⟩ := r
      cases r; rfl
    subst hu
    obtain ⟨v', fp, ee, r⟩ := ER.look (i := 0) (show ER C F3 H3 (some v :: (σs ++ σ)) (.st none τ1 S1 x :: (es ++ e3 p1 p2 p3)) from h3.pop) rfl
    simp at ee; subst ee
    obtain ⟨p, vs, fps, rfl, l1, ra⟩ := hv.view h3.sF r
    refine ⟨j, rfl, p, vs, rfl, by rw [← hK]; exact l1, fun t nt => ?_⟩
    exact q _ (p1, p2, p3) (.ref t) F3 _ hk3 (ER.newOw (show ER C F3 H3 (σs ++ σ) (es ++ e3 p1 p2 p3) from h3.pop.pop) nt ⟨t, _, [], rfl, upd_same, (ra.zero.2.cut (some i) (some j)).zero, rfl⟩))
/-- xs[i:] -/
theorem lx_slL {fi : P1 → (Int → P2 → Option Ω) → Option Ω} (hv : LVw S1 (it E) g1) (ha : LX X env a S1 e1 fa) (hi : ∀ p1, LX X (e1 p1) b (it eI) (e2 p1) (fi p1)) :
    LX X env (.Subscript a (.Slice (some b) none none sp) pos) (ls (it E)) (fun p : P1 × P2 => e2 p.1 p.2) (fun k => fa fun x p1 => fi p1 fun i p2 => k (cutL (g1 x) (some i) none) (p1, p2)) :=
  fun C F H σs es σ k ω Q hK hl h hk q => tE.of X (pe_slice sl_list (peC X) (po_some (peC X)) po_none) (op2_run (lo_of ha) (fun p1 => lo_of (hi p1)) (fun _ _ => trivial) (fun _ _ => trivial) (R := fun x y H => ∃ i, y = .int i ∧ rSlL X.K x (some i) none H Q) hK hl h hk
    (fun x p1 i p2 v u F' H' fp fq hk' h' r1 r2 => by
      obtain ⟨_, r2⟩ := r2
      cases r2
      obtain ⟨p, vs, fps, rfl, l1, ra⟩ := hv.view h'.sF r1
      exact ⟨i, rfl, p, vs, rfl, by rw [← hK]; exact l1, fun t nt => q _ (p1, p2) (.ref t) F' _ hk' (h'.newOw nt ⟨t, _, [], rfl, upd_same, (ra.zero.2.cut (some i) none).zero, rfl⟩)⟩))
/-- xs[:j] -/
theorem lx_slR {fi : P1 → (Int → P2 → Option Ω) → Option Ω} (hv : LVw S1 (it E) g1) (ha : LX X env a S1 e1 fa) (hi : ∀ p1, LX X (e1 p1) b (it eI) (e2 p1) (fi p1)) :
    LX X env (.Subscript a (.Slice none (some b) none sp) pos) (ls (it E)) (fun p : P1 × P2 => e2 p.1 p.2) (fun k => fa fun x p1 => fi p1 fun j p2 => k (cutL (g1 x) none (some j)) (p1, p2)) :=
  fun C F H σs es σ k ω Q hK hl h hk q => tE.of X (pe_slice sl_list (peC X) po_none (po_some (peC X))) (op2_run (lo_of ha) (fun p1 => lo_of (hi p1)) (fun _ _ => trivial) (fun _ _ => trivial) (R := fun x y H => ∃ i, y = .int i ∧ rSlL X.K x none (some i) H Q) hK hl h hk
    (fun x p1 i p2 v u F' H' fp fq hk' h' r1 r2 => by
      obtain ⟨_, r2⟩ := r2
      cases r2
      obtain ⟨p, vs, fps, rfl, l1, ra⟩ := hv.view h'.sF r1
      exact ⟨i, rfl, p, vs, rfl, by rw [← hK]; exact l1, fun t nt => q _ (p1, p2) (.ref t) F' _ hk' (h'.newOw nt ⟨t, _, [], rfl, upd_same, (ra.zero.2.cut none (some i)).zero, rfl⟩)⟩))

/-! ### sorted -/
def rSortD (K : Fg) : List V → Hp → VK → Prop := fun vs H Q => ∃ (p : Addr) (its : List V) (ds : List PyData), vs = [.ref p] ∧ SqL K H p its ∧ DpAll K H its ds ∧ PySem.W.AllAlike ds ∧ PySem.W.Sortable ds ∧ (∀ d ∈ ds, d.depth ≤ 60) ∧
  ∀ t, H t = none → Q (.ref t) (upd H t (.lst (((its.zip ds).mergeSort (PySem.W.dataLe false Prod.snd)).map Prod.fst)))
theorem eachIs_zip {its : List V} {ds : List PyData} {us : List Value} (h : Vals its us) : its.length = ds.length → PySem.W.EachIs (fun (u : Value) (p : V × PyData) => RelV p.1 u) us (its.zip ds) := by
  intro hl
  induction h generalizing ds with
  | nil => cases ds with
    | nil => exact .nil
    | cons d ds => simp at hl
  | cons r t ih => cases ds with
    | nil => simp at hl
    | cons d ds => exact .cons r (ih (by simpa using hl))
theorem eachIs_reads {h : Heap} {its : List V} {ds : List PyData} {us : List Value} {as : List Addr} (hr : ReadsAll h us ds as) (hl : its.length = ds.length) : PySem.W.EachIs (fun (u : Value) (p : V × PyData) => ∃ as, Reads h u p.2 as) us (its.zip ds) := by
  induction us generalizing its ds as with
  | nil => cases hr; cases its with
    | nil => exact .nil
    | cons _ _ => simp at hl
  | cons u us ih =>
    cases hr with
    | cons r1 r2 => cases its with
      | nil => simp at hl
      | cons v its => exact .cons ⟨_, r1⟩ (ih r2 (by simpa using hl))
theorem eachIs_vals {out : List Value} {ps : List (V × PyData)} (h : PySem.W.EachIs (fun (u : Value) (p : V × PyData) => RelV p.1 u) out ps) : Vals (ps.map Prod.fst) out := by
  induction h with
  | nil => exact .nil
  | cons r _ ih => exact .cons r ih
theorem dpAll_length {K : Fg} {H : Hp} : ∀ {vs : List V} {ds : List PyData}, DpAll K H vs ds → vs.length = ds.length
  | _, _, .nil => rfl
  | _, _, .cons _ r => congrArg (· + 1) (dpAll_length r)
theorem cr_sortD (hu : X.A.units + 64 < cLine) : CallR X (.builtin "sorted") (rSortD X.K) := by
  intro pins s σ H vs us Q I r h
  obtain ⟨p, its, ds, rfl, hs, hd, hal, hso, hdep, q⟩ := h
  obtain ⟨uts, rv, pl, hz⟩ := I.list hs
  rw [Vals.ref1 r]
  obtain ⟨as, hr⟩ := Dp.readsAll I ds its uts hd rv
  have hl := dpAll_length hd
  have hm : (its.zip ds).map Prod.snd = ds := by rw [List.map_snd_zip (by omega)]
  refine PySem.W.sorted_data (enc := Prod.snd) (bs := its.zip ds) (R := fun (u : Value) (p : V × PyData) => RelV p.1 u) pl.isList (eachIs_zip rv hl) (eachIs_reads hr hl) (by rw [hm]; exact hal) (by rw [hm]; exact hso) (by rw [List.length_zip]; omega) (fun b hb => ?_) fun out ho eo => ?_
  · have : b.2 ∈ ds := by rw [← hm]; exact List.mem_map_of_mem hb
    have := hdep _ this
    omega
  · obtain ⟨ep, he'⟩ := PyProof.Rows.sortedAll_at s.heap uts out.toArray
    have rv' := eachIs_vals eo
    have hlen : (((its.zip ds).mergeSort (PySem.W.dataLe false Prod.snd)).map Prod.fst).length ≤ sizeLine := by
      rw [List.length_map, List.length_mergeSort, List.length_zip]; omega
    exact ⟨.ref _, upd H (s.heap.objs.size + 1) (.lst (((its.zip ds).mergeSort (PySem.W.dataLe false Prod.snd)).map Prod.fst)), I.laid (t' := s.toks) (fun _ _ => PyProof.Rows.sortedAll_old) (Nat.le_succ _) ⟨hlen, out, ep, rv', he'⟩, rfl, q _ (I.hok.fresh (Nat.le_succ _))⟩
/-- sorted by <, equal ones as they stood -/
def sortB {α : Type} (lt : α → α → Bool) (xs : List α) : List α := xs.mergeSort fun x y => !lt y x
/-- tuples that are not empty, or no tuples -/
structure So (E : Enc α) : Prop where
  so : (∀ x, ∃ y r, E.enc x = .tuple (y :: r)) ∨ ∀ x, E.enc x ≠ .none ∧ ∀ r, E.enc x ≠ .tuple r
theorem soI : So eI := ⟨.inr fun _ => ⟨(fun h => by cases h), (fun _ h => by cases h)⟩⟩
theorem soT2 {A : Enc α} {B : Enc β} : So (eT2 A B) := ⟨.inl fun _ => ⟨_, _, rfl⟩⟩
theorem soT3 {γ : Type} {A : Enc α} {B : Enc β} {D : Enc γ} : So (eT3 A B D) := ⟨.inl fun _ => ⟨_, _, rfl⟩⟩
theorem soT4 {γ δ : Type} {A : Enc α} {B : Enc β} {D : Enc γ} {D' : Enc δ} : So (eT4 A B D D') := ⟨.inl fun _ => ⟨_, _, rfl⟩⟩
theorem zip_rep {K : Fg} {F : Hp} : ∀ {vs : List V} {xs : List α}, RepAll K F vs (xs.map E.enc) → (vs.zip (xs.map E.enc)) = (vs.zip xs).map fun p => (p.1, E.enc p.2)
  | [], _, _ => rfl
  | _ :: _, [], h => by cases h
  | v :: vs, x :: xs, h => by
    cases h with
    | cons h1 h2 =>
      show (v, E.enc x) :: vs.zip (xs.map E.enc) = (v, E.enc x) :: (vs.zip xs).map _
      rw [zip_rep h2]
theorem rep_zip {K : Fg} {F : Hp} : ∀ {vs : List V} {xs : List α}, RepAll K F vs (xs.map E.enc) → ∀ p ∈ vs.zip xs, Rep K F p.1 (E.enc p.2)
  | [], _, _, p, m => by simp at m
  | _ :: _, [], h, _, _ => by cases h
  | v :: vs, x :: xs, h, p, m => by
    cases h with
    | cons h1 h2 =>
      rcases List.mem_cons.mp m with rfl | m
      · exact h1
      · exact rep_zip h2 p m
theorem RepAll.of_pairs {K : Fg} {F : Hp} : ∀ (ps : List (V × α)), (∀ p ∈ ps, Rep K F p.1 (E.enc p.2)) → RepAll K F (ps.map Prod.fst) ((ps.map Prod.snd).map E.enc)
  | [], _ => .nil
  | p :: ps, h => .cons (h p List.mem_cons_self) (RepAll.of_pairs ps fun q m => h q (List.mem_cons_of_mem _ m))
theorem sort_pairs {K : Fg} {F : Hp} {lt : α → α → Bool} (od : Od E lt) {vs : List V} {xs : List α} (h : RepAll K F vs (xs.map E.enc)) :
    RepAll K F (((vs.zip (xs.map E.enc)).mergeSort (PySem.W.dataLe false Prod.snd)).map Prod.fst) ((sortB lt xs).map E.enc) := by
  have hl : vs.length = xs.length := by have := h.length; simpa using this
  have e0 : ((vs.zip xs).mergeSort fun p q => !lt q.2 p.2).map (fun p => (p.1, E.enc p.2)) = (vs.zip (xs.map E.enc)).mergeSort (PySem.W.dataLe false Prod.snd) := by
    rw [zip_rep h]
    refine PySem.W.sort_maps _ fun p _ q _ => ?_
    rw [PySem.W.dataLe_eq]
    show (!lt q.2 p.2) = !PySem.W.dataLt (E.enc q.2) (E.enc p.2)
    rw [od.lt]
  rw [← e0, List.map_map]
  have e1 : ((vs.zip xs).mergeSort fun p q => !lt q.2 p.2).map Prod.snd = sortB lt xs := by
    unfold sortB
    rw [PySem.W.sort_maps (s := fun x y => !lt y x) Prod.snd (fun p _ q _ => rfl), List.map_snd_zip (by omega)]
  rw [← e1]
  exact RepAll.of_pairs _ fun p m => rep_zip h p (List.mem_mergeSort.mp m)
theorem lx_sorted {lt : α → α → Bool} {n : Nat} {g : τ → List α} {f : (τ → P → Option Ω) → Option Ω} (hu : X.A.units + 64 < cLine) (od : Od E lt) (so : So E) (dt : Dt E n) (hv : LVw S (it E) g) (hm : X.mg "sorted" = none) (ha : LO X G env a S e' f) (hG : ∀ p, G (e' p)) (hn : n ≤ 60 := by decide) (hg : Gl X "sorted" := by rfl) (he : starEach (a :: []) X.env = (false, eval a X.env) :: starEach [] X.env := by rfl) (hpl : (backTo pos (starEach [] X.env)).any (·.1) = false := by rfl) :
    LX X env (.Call (.Name "sorted" np) [a] [] pos) (ls (it E)) e' (fun k => f fun x p => (some (sortB lt (g x))).bind fun y => k y p) :=
  lx_b1n (E := E) (g := fun x : τ => some (sortB lt (g x))) (cr_sortD hu) hm PyProof.Rows.boot_sorted ha hG (fun K F H fp v x y Q hK s hy r q => by
    subst hK
    cases hy
    obtain ⟨p, vs, fps, rfl, h1, h2⟩ := hv.view s r
    have rp := h2.zero.2
    have hd := dts dt (g x)
    refine ⟨p, vs, (g x).map E.enc, rfl, h1, rp.dp s hd.1, (od_all od (g x)).1, ?_, fun d m => by obtain ⟨y, _, rfl⟩ := List.mem_map.mp m; exact Nat.le_trans (dt.dep y) hn, fun t nt => q t _ nt (sort_pairs od rp)⟩
    rcases so.so with so | so
    · exact .inl fun d m => by obtain ⟨y, _, rfl⟩ := List.mem_map.mp m; exact so y
    · exact .inr fun d m => by obtain ⟨y, _, rfl⟩ := List.mem_map.mp m; exact so y) hg (by decide) (by decide) he hpl

/-! ### enumerate, zip -/
def enumL {α : Type} (xs : List α) : List (Int × α) := xs.zipIdx.map fun p => ((p.2 : Int), p.1)
theorem enumL_get {α : Type} (xs : List α) (i : Nat) : (enumL xs)[i]? = (xs[i]?).map fun x => ((i : Int), x) := by
  unfold enumL
  rw [List.getElem?_map, List.getElem?_zipIdx]
  cases xs[i]? <;> simp
theorem li_enum {f : (τ → P → Option Ω) → Option Ω} {g : τ → List α} {elts : List Expr} {kk : Nat} {tp p : Pos} (hg : Gl X "enumerate") (hm : X.mg "enumerate" = none) (hv : LVw S (it E) g) (h : LX X env a S e' f) (hs : starEach [a] X.env = [(false, eval a X.env)] := by rfl) (hs4 : starEach [a] X.env = (false, eval a X.env) :: starEach [] X.env := by rfl) :
    LI X env (.Tuple elts kk tp) (.Call (.Name "enumerate" p) [a] [] pos) (it (eT2 eI E)) e' (fun k => f fun x q => k (enumL (g x)) q) :=
  fun C F H σs es σ k ω R hK hl hr hk q => tI.of X (pi_enum hg hm (pa_cons (peC X) pa_nil hs4) hs) (h C F H σs es σ _ ω _ hK hl hr hk fun x p v F' H' hk' h' => by
    obtain ⟨v', fp, e1, r⟩ := h'.look (i := 0) rfl
    simp at e1; subst e1
    obtain ⟨p0, vs, fps, rfl, hs, ra⟩ := hv.view h'.sF r
    refine ⟨p0, vs, rfl, by rw [← hK]; exact hs, q (enumL (g x)) p (Ite X.K p0) F' H' [some (.ref p0)] [.st none τ S x] hk' h' ⟨rfl, fun i F2 H2 σ2 σb e2 eb hl2 h2 => ?_⟩⟩
    obtain ⟨v', fp', e1, r'⟩ := h2.look (i := e2.length + 0) (by rw [at_app _ rfl]; rfl)
    rw [at_app _ hl2] at e1
    simp at e1; subst e1
    obtain ⟨p1, ws, fps', e3, hs', ra'⟩ := hv.view h2.sF r'
    cases e3
    rw [hK] at hs'
    have rp := ra'.zero.2
    rw [enumL_get]
    refine ⟨fun y hy => ?_, fun hn => ?_⟩
    · cases hgi : (g x)[i]? with
      | none => rw [hgi] at hy; cases hy
      | some z =>
        rw [hgi] at hy
        cases hy
        obtain ⟨w, hw, rw'⟩ := rp.get (i := i) (d := E.enc z) (by rw [List.getElem?_map, hgi]; rfl)
        refine ⟨⟨ws, w, hs', hw⟩, fun v H' hy' => ?_⟩
        obtain ⟨T, w', rfl, nT, rfl, hy'⟩ := hy'
        have := hy' ws hs'
        rw [hw] at this; cases this
        refine ⟨upd F2 T (.tup [.int (i : Nat), w]), (h2.newF nT).pushSh ?_⟩
        exact .tup (SqT.of upd_same) (.cons (.int _) (.cons (rw'.mono (same_new (h2.fnone nT))) .nil))
    · refine ⟨ws, hs', ?_⟩
      have := rp.length
      simp at this
      cases hgi : (g x)[i]? with
      | none => have := List.getElem?_eq_none_iff.mp hgi; omega
      | some z => rw [hgi] at hn; cases hn)
theorem li_zip {fa : (τ1 → P1 → Option Ω) → Option Ω} {fb : P1 → (τ2 → P2 → Option Ω) → Option Ω} {g2 : τ2 → List β} {elts : List Expr} {kk : Nat} {tp p : Pos} (hg : Gl X "zip") (hm : X.mg "zip" = none) (hv : LVw S1 (it E) g1) (hv2 : LVw S2 (it Eb) g2) (h : LX X env a S1 e1 fa) (h2 : ∀ p1, LX X (e1 p1) b S2 (e2 p1) (fb p1))
    (hs : starEach [a, b] X.env = (false, eval a X.env) :: starEach [b] X.env := by rfl) (hs4 : starEach [b] X.env = (false, eval b X.env) :: starEach [] X.env := by rfl) (hpl : (backTo pos (starEach [b] X.env)).any (·.1) = false := by rfl) :
    LI X env (.Tuple elts kk tp) (.Call (.Name "zip" p) [a, b] [] pos) (it (eT2 E Eb)) (fun q : P1 × P2 => e2 q.1 q.2) (fun k => fa fun x p1 => fb p1 fun y p2 => k ((g1 x).zip (g2 y)) (p1, p2)) :=
  fun C F H σs es σ k ω R hK hl hr hk q => tI.of X (pi_zip hg hm (pa_cons (peC X) (pa_cons (peC X) pa_nil hs4) hs) hs hpl) (h C F H σs es σ _ ω _ hK hl hr hk fun x p1 v F1 H1 hk1 h1 =>
    h2 p1 C F1 H1 (some v :: σs) (.st none τ1 S1 x :: es) σ _ ω _ hK (by simp [hl]) h1 hk1 fun y p2 u F' H' hk' h' => by
      have h'' : ER C F' H' ([some u, some v] ++ (σs ++ σ)) ([.st none τ2 S2 y, .st none τ1 S1 x] ++ (es ++ e2 p1 p2)) := h'
      obtain ⟨u', fq, eq1, rq⟩ := h''.look (i := 0) rfl
      simp at eq1; subst eq1
      obtain ⟨v', fp, ev1, rv⟩ := h''.look (i := 1) rfl
      simp at ev1; subst ev1
      obtain ⟨pb, ws, fqs, rfl, hsb, rb⟩ := hv2.view h''.sF rq
      obtain ⟨pa, vs, fps, rfl, hsa, ra⟩ := hv.view h''.sF rv
      refine ⟨pa, pb, vs, ws, rfl, by rw [← hK]; exact hsa, by rw [← hK]; exact hsb, q ((g1 x).zip (g2 y)) (p1, p2) (Itz X.K pa pb) F' H' [some (.ref pb), some (.ref pa)] [.st none τ2 S2 y, .st none τ1 S1 x] hk' h'' ⟨rfl, fun i F2 H2 σ2 σb e2' eb hl2 h3 => ?_⟩⟩
      obtain ⟨u', fq', eq1, rq'⟩ := h3.look (i := e2'.length + 0) (by rw [at_app _ rfl]; rfl)
      rw [at_app _ hl2] at eq1
      simp at eq1; subst eq1
      obtain ⟨v', fp', ev1, rv'⟩ := h3.look (i := e2'.length + 1) (by rw [at_app _ rfl]; rfl)
      rw [at_app _ hl2] at ev1
      simp at ev1; subst ev1
      obtain ⟨pb', ws', fqs', e5, hsb', rb'⟩ := hv2.view h3.sF rq'
      obtain ⟨pa', vs', fps', e6, hsa', ra'⟩ := hv.view h3.sF rv'
      cases e5; cases e6
      rw [hK] at hsb' hsa'
      have rpb := rb'.zero.2
      have rpa := ra'.zero.2
      have lb := rpb.length
      have la := rpa.length
      simp at lb la
      refine ⟨fun z hz => ?_, fun hn => ?_⟩
      · rw [List.getElem?_zip_eq_some] at hz
        obtain ⟨hz1, hz2⟩ := hz
        obtain ⟨w1, hw1, rw1⟩ := rpa.get (i := i) (d := E.enc z.1) (by rw [List.getElem?_map, hz1]; rfl)
        obtain ⟨w2, hw2, rw2⟩ := rpb.get (i := i) (d := Eb.enc z.2) (by rw [List.getElem?_map, hz2]; rfl)
        refine ⟨⟨vs', ws', w1, w2, hsa', hsb', hw1, hw2⟩, fun v H' hy' => ?_⟩
        obtain ⟨T, x1, x2, rfl, nT, rfl, hy1, hy2⟩ := hy'
        have t1 := hy1 vs' hsa'
        have t2 := hy2 ws' hsb'
        rw [hw1] at t1; cases t1
        rw [hw2] at t2; cases t2
        refine ⟨upd F2 T (.tup [w1, w2]), (h3.newF nT).pushSh ?_⟩
        have sm := same_new (u := HO.tup [w1, w2]) (h3.fnone nT)
        exact .tup (SqT.of upd_same) (.cons (rw1.mono sm) (.cons (rw2.mono sm) .nil))
      · refine ⟨vs', ws', hsa', hsb', ?_⟩
        have := List.getElem?_eq_none_iff.mp hn
        rw [List.length_zip] at this
        omega)
end
section
variable {X : Cx} {R I Ω : Type} {SR : Stor R} {envR : I → Env} {kr : R → I → Option Ω} {bk ct : Lp Ω} {env : Env} {nm : Str} {pos : Pos} {e : Expr} {rest : List Stmt} {P : Type} {τ α : Type} {S : Stor τ} {E : Enc α} {e' : P → Env} {J : Type} {envJ : J → Env} {g : τ → List α}
/-- x.extend(ys), x a list of one's own -/
theorem lb_ext {f : (τ → P → Option Ω) → Option Ω} {fr : τ → P → (J → Option Ω) → Option Ω} {w : Option V} {x0 : List α} {xs : P → List α} {ap cp np : Pos} (i : Nat) (h0 : env[i]? = some (.st w (List α) (ls (it E)) x0)) (hvw : LVm S (it E) g)
    (he : LX X env e S e' f) (h1 : ∀ p, (e' p)[i]? = some (.st w (List α) (ls (it E)) (xs p))) (hr : ∀ y p, LB X SR envR kr bk ct ((e' p).set i (.st w (List α) (ls (it E)) (xs p ++ g y))) rest envJ (fr y p))
    (hN : X.N[i]? = some nm := by rfl) (hv : Vis X.env.scope nm := by first | exact Or.inl rfl | exact Or.inr (Or.inl rfl) | exact Or.inr (Or.inr rfl))
    (hd : (nm == ("__debug__" : Str)) = false := by decide) (hcd : (nm == ("__classdict__" : Str)) = false := by decide)
    (hbase : attributeBase (.Name nm np) "extend" X.env (eval (.Name nm np) X.env) = eval (.Name nm np) X.env := by rfl)
    (hfew : ((backTo cp (starEach [e] X.env)).all (fun x => !x.1) && (backToKw cp (keywordEach [] X.env)).all (fun x => x.1.isSome) && decide ([e].length + ([] : List Keyword).length + (if ([] : List Keyword).isEmpty then 0 else 1) < 30)) = true := by rfl)
    (hline : (ap.endLine == cp.line) = true := by rfl) (hse : starEach [e] X.env = (false, eval e X.env) :: starEach [] X.env := by rfl) (hplain : (backTo cp (starEach [] X.env)).any (·.1) = false := by rfl)
    (hsw : swapsWith (.Call (.Attribute (.Name nm np) "extend" ap) [e] [] cp) none pos.line X.env = pure false := by rfl) :
    LB X SR envR kr bk ct env (.Expr (.Call (.Attribute (.Name nm np) "extend" ap) [e] [] cp) pos :: rest) envJ (fun kn => f fun y p => ck (decide ((xs p).length + (g y).length ≤ SZ)) (fr y p kn)) :=
  fun C F H σs es σ kn ω D hK hl h hk qn qb qc qr => tSs.of X (pss_cons (ps_expr (pe_bm PySem.F.plainAttrs_list PySem.F.slot_list_extend PySem.F.type_list_extend mt_extend (pe_var hN hv hd hcd) (pa_cons (peC X) pa_nil hse) hbase hfew hline hse hplain) hsw) (pssC X)) (by
    obtain ⟨l, fp, e1, r⟩ := h.lookF hl h0
    obtain ⟨q0, vs0, fps0, rfl, hq0, _, _⟩ := r
    refine ⟨_, e1, .inl ⟨rfl, vs0, SqL.of hq0⟩, he C F H σs es σ _ ω _ hK hl h hk fun y p v F' H' hk' h' => ?_⟩
    obtain ⟨hc, hk'⟩ := ck_some hk'
    have hc' := of_decide_eq_true hc
    obtain ⟨v', fpy, ey, ry⟩ := h'.look (i := 0) rfl
    simp at ey; subst ey
    obtain ⟨pb, zs, fps, rfl, hb, rb⟩ := hvw.view h'.sF ry
    have rpb := rb.zero.2
    obtain ⟨l', fp', e4, r1, nd, ow, fin⟩ := (ER.pop h').mut (i := es.length + i) (by rw [at_app _ rfl]; exact h1 p)
    rw [at_app _ hl, e1] at e4
    cases e4
    obtain ⟨q1, vs, fps', e5, hq, ra, rfl⟩ := r1
    cases e5
    obtain ⟨rfl, rp⟩ := ra.zero
    have n1 : vs.length = (xs p).length := by have := rp.length; simpa using this
    have n2 : zs.length = (g y).length := by have := rpb.length; simpa using this
    refine ⟨q0, pb, vs, zs, rfl, rfl, hq, hb, by rw [SZ_eq]; omega, ?_⟩
    have fin' := fin (List α) (ls (it E)) (xs p ++ g y) (upd H' q0 (.lst (vs ++ zs))) [q0] (fun a na _ => upd_ne fun z => na (by rw [z]; simp)) (fun a m => ?_) ⟨q0, vs ++ zs, [], rfl, upd_same, ?_, rfl⟩ (by simp) (fun a m => ?_)
    · rw [List.set_append_right _ _ (Nat.le_add_right _ _), Nat.add_sub_cancel_left] at fin'
      exact hr y p C F' _ σs es σ kn ω D hK hl fin' hk' qn qb qc qr
    · by_cases z : a = q0
      · subst z; rw [upd_same]; exact fun z => by cases z
      · rw [upd_ne z]; exact m
    · have := rp.app rpb
      rw [← List.map_append] at this
      exact this.zero
    · simp at m; subst m
      exact ⟨by rw [upd_same]; exact (fun z => by cases z), .inl (by simp)⟩)
end
/-! ### the script; the last step -/
theorem lv_scr : LVw scr (it eI) id := ⟨fun {K F H fp v x} s r => by
  obtain ⟨_, a, rfl, q⟩ := r
  exact ⟨a, _, [], rfl, s.seq q, (RepAll.ofInts x).zero⟩⟩
theorem lb_use {X : Cx} {R I Ω J : Type} {SR : Stor R} {envR : I → Env} {kr : R → I → Option Ω} {bk ct : Lp Ω} {env : Env} {sts : List Stmt} {envJ : J → Env} {f f' : (J → Option Ω) → Option Ω} (h : LB X SR envR kr bk ct env sts envJ f) (e : f = f') : LB X SR envR kr bk ct env sts envJ f' := e ▸ h
theorem lx_use {X : Cx} {Ω P τ : Type} {S : Stor τ} {env : Env} {e : Expr} {env' : P → Env} {f f' : (τ → P → Option Ω) → Option Ω} (h : LX X env e S env' f) (q : f = f') : LX X env e S env' f' := q ▸ h
end Z

set_option Elab.async false
set_option linter.all false
set_option maxRecDepth 100000
namespace Z
open PySem PySem.Spec PyProof.Rows L2

/-! ### a state [n, cells]: a list that holds an int and a list of ints of its own -/
abbrev TSt := Int × List Int
def stT : Stor TSt where
  rel := fun _ _ H fp v t => ∃ p q, v = .ref p ∧ H p = some (.lst [.int t.1, .ref q]) ∧ H q = some (.lst (t.2.map V.int)) ∧ fp = [p, q]
  monoF := fun _ h => h
  frame := fun f h => by
    obtain ⟨p, q, rfl, h1, h2, rfl⟩ := h
    exact ⟨p, q, rfl, by rw [f p (by simp)]; exact h1, by rw [f q (by simp)]; exact h2, rfl⟩
/-- the same without the list: it stands at q -/
def stA (q : Addr) : Stor Int where
  rel := fun _ _ H fp v n => ∃ p, v = .ref p ∧ H p = some (.lst [.int n, .ref q]) ∧ fp = [p]
  monoF := fun _ h => h
  frame := fun f h => by
    obtain ⟨p, rfl, h1, rfl⟩ := h
    exact ⟨p, rfl, by rw [f p (by simp)]; exact h1, rfl⟩
section
variable {C : Ck} {F H : Hp} {σ : List (Option V)} {env : Env}
/-- the list of a state under a name of its own -/
theorem ER.split {i j : Nat} {w : V} {t : TSt} (h : ER C F H σ env) (e : env[i]? = some (.st (some w) TSt stT t)) (ej : env[j]? = some .un) : ∃ p q, σ[i]? = some (some (.ref p)) ∧ H p = some (.lst [.int t.1, .ref q]) ∧
    ER C F H (σ.set j (some (.ref q))) ((env.set i (.st (some w) Int (stA q) t.1)).set j (.st (some (.ref q)) (List Int) (ls (it eI)) t.2)) := by
  obtain ⟨fp, k⟩ := h.sl
  have hi := lt_of_get e
  have hj := lt_of_get ej
  have ne : i ≠ j := fun z => by subst z; rw [e] at ej; cases ej
  obtain ⟨v, e1, ⟨p, q, rfl, h1, h2, hf⟩, e2, k2⟩ := k.ok i _ e
  have e1' : σ[i]? = some (some (.ref p)) := by
    cases z : σ[i]? with
    | none => rw [z] at e1; cases e1
    | some o => rw [z] at e1; exact congrArg some e1
  have own := k.own i hi
  have nd := k.nd i hi
  rw [hf] at own nd k2
  have hpq : p ≠ q := by simpa using nd
  have mem : ∀ a, (a = p ∨ a = q) → a ∈ fp i := fun a m => by rw [hf]; simpa using m
  refine ⟨p, q, e1', h1, h.sB, h.sF, h.gr, h.up, by simp [h.len], fun l => if l = i then [p] else if l = j then [q] else fp l, fun l s el => ?_, fun l hl a ha => ?_, fun l m hl hm a ha hb => ?_, fun l hl => ?_⟩
  · by_cases zj : l = j
    · subst zj
      rw [List.getElem?_set_self (by simpa using hj)] at el
      cases el
      simp only [if_neg (fun z : l = i => ne z.symm), if_pos]
      have hls : l < σ.length := by rw [h.len]; exact hj
      refine ⟨.ref q, by rw [List.getElem?_set_self hls]; rfl, ⟨q, t.2.map V.int, [], rfl, h2, (RepAll.ofInts t.2).zero, rfl⟩, rfl, fun a m => ?_⟩
      simp at m; subst m
      exact k2 a (by simp)
    · rw [List.getElem?_set_ne (fun z => zj z.symm)] at el
      by_cases zi : l = i
      · subst zi
        rw [List.getElem?_set_self hi] at el
        cases el
        simp only [if_pos]
        refine ⟨.ref p, by rw [List.getElem?_set_ne (fun z => zj z.symm)]; exact e1, ⟨p, rfl, h1, rfl⟩, e2, fun a m => ?_⟩
        simp at m; subst m
        exact k2 a (by simp)
      · rw [List.getElem?_set_ne (fun z => zi z.symm)] at el
        simp only [if_neg zi, if_neg zj]
        rw [List.getElem?_set_ne (fun z => zj z.symm)]
        exact k.ok l s el
  · have hl' : l < env.length := by simpa using hl
    by_cases zi : l = i
    · simp only [if_pos zi] at ha
      simp at ha; subst ha
      exact own a (by simp)
    · simp only [if_neg zi] at ha
      by_cases zj : l = j
      · simp only [if_pos zj] at ha
        simp at ha; subst ha
        exact own a (by simp)
      · simp only [if_neg zj] at ha
        exact k.own l hl' a ha
  · have hl' : l < env.length := by simpa using hl
    have hm' : m < env.length := by simpa using hm
    have cl : ∀ l, l < env.length → a ∈ (if l = i then [p] else if l = j then [q] else fp l) → (l = i ∧ a = p) ∨ (l = j ∧ a = q) ∨ (l ≠ i ∧ l ≠ j ∧ a ∈ fp l) := fun l hl ha => by
      by_cases zi : l = i
      · simp only [if_pos zi] at ha; simp at ha; exact .inl ⟨zi, ha⟩
      · simp only [if_neg zi] at ha
        by_cases zj : l = j
        · simp only [if_pos zj] at ha; simp at ha; exact .inr (.inl ⟨zj, ha⟩)
        · simp only [if_neg zj] at ha; exact .inr (.inr ⟨zi, zj, ha⟩)
    rcases cl l hl' ha with ⟨a1, a2⟩ | ⟨a1, a2⟩ | ⟨a1, a2, a3⟩
    · rcases cl m hm' hb with ⟨b1, b2⟩ | ⟨b1, b2⟩ | ⟨b1, b2, b3⟩
      · rw [a1, b1]
      · exact absurd (a2.symm.trans b2) hpq
      · exact absurd (k.sep m i hm' hi a b3 (mem a (.inl a2))) b1
    · rcases cl m hm' hb with ⟨b1, b2⟩ | ⟨b1, b2⟩ | ⟨b1, b2, b3⟩
      · exact absurd (b2.symm.trans a2) hpq
      · rw [a1, b1]
      · exact absurd (k.sep m i hm' hi a b3 (mem a (.inr a2))) b1
    · rcases cl m hm' hb with ⟨b1, b2⟩ | ⟨b1, b2⟩ | ⟨b1, b2, b3⟩
      · exact absurd (k.sep l i hl' hi a a3 (mem a (.inl b2))) a1
      · exact absurd (k.sep l i hl' hi a a3 (mem a (.inr b2))) a1
      · exact k.sep l m hl' hm' a a3 b3
  · have hl' : l < env.length := by simpa using hl
    by_cases zi : l = i
    · simp only [if_pos zi]; simp
    · simp only [if_neg zi]
      by_cases zj : l = j
      · simp only [if_pos zj]; simp
      · simp only [if_neg zj]; exact k.nd l hl'
/-- .. and together again -/
theorem ER.join {i j : Nat} {w : V} {q : Addr} {n : Int} {cs : List Int} (h : ER C F H σ env) (e : env[i]? = some (.st (some w) Int (stA q) n)) (ej : env[j]? = some (.st (some (.ref q)) (List Int) (ls (it eI)) cs)) :
    ER C F H σ ((env.set i (.st (some w) TSt stT (n, cs))).set j .un) := by
  obtain ⟨fp, k⟩ := h.sl
  have hi := lt_of_get e
  have hj := lt_of_get ej
  obtain ⟨v, e1, ⟨p, rfl, h1, hf⟩, e2, k2⟩ := k.ok i _ e
  obtain ⟨u, u1, ⟨q', vs, fps, rfl, h2, ra, hg⟩, u2, u3⟩ := k.ok j _ ej
  have hq : q' = q := by cases u2; rfl
  subst hq
  obtain ⟨rfl, rp⟩ := ra.zero
  have hv := rp.ints
  subst hv
  have ne : i ≠ j := fun z => by
    subst z
    rw [e1] at u1
    have e3 : p = q' := by
      have := Option.some.inj u1
      cases this; rfl
    subst e3
    rw [h1] at h2
    have e4 := Option.some.inj h2
    have e5 : [V.int n, V.ref p] = cs.map V.int := by injection e4
    cases cs with
    | nil => simp at e5
    | cons a cs => cases cs with
      | nil => simp at e5
      | cons b cs => simp at e5
  have ownp := k.own i hi p (by rw [hf]; simp)
  have ownq := k.own j hj q' (by rw [hg]; simp)
  have hpq : p ≠ q' := fun z => by
    subst z
    exact ne (k.sep i j hi hj p (by rw [hf]; simp) (by rw [hg]; simp))
  refine ⟨h.sB, h.sF, h.gr, h.up, by simp [h.len], fun l => if l = i then [p, q'] else if l = j then [] else fp l, fun l s el => ?_, fun l hl a ha => ?_, fun l m hl hm a ha hb => ?_, fun l hl => ?_⟩
  · by_cases zj : l = j
    · subst zj
      rw [List.getElem?_set_self (by simpa using hj)] at el
      cases el
      simp only [if_neg (fun z : l = i => ne z.symm), if_pos]
      rfl
    · rw [List.getElem?_set_ne (fun z => zj z.symm)] at el
      by_cases zi : l = i
      · subst zi
        rw [List.getElem?_set_self hi] at el
        cases el
        simp only [if_pos]
        refine ⟨.ref p, e1, ⟨p, q', rfl, h1, h2, rfl⟩, e2, fun a m => ?_⟩
        simp at m
        rcases m with rfl | rfl
        · exact k2 a (by rw [hf]; simp)
        · exact u3 a (by rw [hg]; simp)
      · rw [List.getElem?_set_ne (fun z => zi z.symm)] at el
        simp only [if_neg zi, if_neg zj]
        exact k.ok l s el
  · have hl' : l < env.length := by simpa using hl
    by_cases zi : l = i
    · simp only [if_pos zi] at ha
      simp at ha
      rcases ha with rfl | rfl
      · exact ownp
      · exact ownq
    · simp only [if_neg zi] at ha
      by_cases zj : l = j
      · simp [if_pos zj] at ha
      · simp only [if_neg zj] at ha
        exact k.own l hl' a ha
  · have hl' : l < env.length := by simpa using hl
    have hm' : m < env.length := by simpa using hm
    have cl : ∀ l, l < env.length → a ∈ (if l = i then [p, q'] else if l = j then [] else fp l) → (l = i ∧ (a ∈ fp i ∨ a ∈ fp j)) ∨ (l ≠ i ∧ l ≠ j ∧ a ∈ fp l) := fun l hl ha => by
      by_cases zi : l = i
      · simp only [if_pos zi] at ha; simp at ha
        refine .inl ⟨zi, ?_⟩
        rcases ha with rfl | rfl
        · exact .inl (by rw [hf]; simp)
        · exact .inr (by rw [hg]; simp)
      · simp only [if_neg zi] at ha
        by_cases zj : l = j
        · simp [if_pos zj] at ha
        · simp only [if_neg zj] at ha; exact .inr ⟨zi, zj, ha⟩
    rcases cl l hl' ha with ⟨a1, a2⟩ | ⟨a1, a2, a3⟩
    · rcases cl m hm' hb with ⟨b1, b2⟩ | ⟨b1, b2, b3⟩
      · rw [a1, b1]
      · rcases a2 with a2 | a2
        · exact absurd (k.sep m i hm' hi a b3 a2) b1
        · exact absurd (k.sep m j hm' hj a b3 a2) b2
    · rcases cl m hm' hb with ⟨b1, b2⟩ | ⟨b1, b2, b3⟩
      · rcases b2 with b2 | b2
        · exact absurd (k.sep l i hl' hi a a3 b2) a1
        · exact absurd (k.sep l j hl' hj a a3 b2) a2
      · exact k.sep l m hl' hm' a a3 b3
  · have hl' : l < env.length := by simpa using hl
    by_cases zi : l = i
    · simp only [if_pos zi]; simp [hpq]
    · simp only [if_neg zi]
      by_cases zj : l = j
      · simp [if_pos zj]
      · simp only [if_neg zj]; exact k.nd l hl'
/-- a new state of a number and a list -/
theorem ER.joinTop {p q : Addr} {n : Int} {cs : List Int} (h : ER C F H (some (.ref p) :: some (.ref q) :: σ) (.st none Int (stA q) n :: .st none (List Int) (ls (it eI)) cs :: env)) : ER C F H (some (.ref p) :: σ) (.st none TSt stT (n, cs) :: env) := by
  obtain ⟨fp, k⟩ := h.sl
  obtain ⟨v, e1, ⟨p', rfl, h1, hf⟩, k2⟩ := k.ok 0 _ rfl
  simp at e1; subst e1
  obtain ⟨u, u1, ⟨q', vs, fps, rfl, h2, ra, hg⟩, u3⟩ := k.ok 1 _ rfl
  simp at u1; subst u1
  obtain ⟨rfl, rp⟩ := ra.zero
  have hv := rp.ints
  subst hv
  have l0 : 0 < (Slot.st none Int (stA q) n :: Slot.st none (List Int) (ls (it eI)) cs :: env).length := by simp
  have l1 : 1 < (Slot.st none Int (stA q) n :: Slot.st none (List Int) (ls (it eI)) cs :: env).length := by simp
  have ownp := k.own 0 l0 p (by rw [hf]; simp)
  have ownq := k.own 1 l1 q (by rw [hg]; simp)
  have hpq : p ≠ q := fun z => by
    subst z
    have := k.sep 0 1 l0 l1 p (by rw [hf]; simp) (by rw [hg]; simp)
    omega
  have hp := h.pop.pop
  refine ⟨hp.sB, hp.sF, hp.gr, hp.up, by simp [hp.len], _, Fps.push (fp := fun l => fp (l + 2)) ⟨fun l s el => ?_, fun l hl a ha => ?_, fun l m hl hm a ha hb => ?_, fun l hl => ?_⟩ (fq := [p, q]) ⟨_, rfl, ⟨p, q, rfl, h1, h2, rfl⟩, fun a m => ?_⟩ (fun a m => ?_) (by simp [hpq]) fun l hl a ha m => ?_⟩
  · have := k.ok (l + 2) s (by simpa using el)
    simpa using this
  · exact k.own (l + 2) (by simpa using hl) a ha
  · have := k.sep (l + 2) (m + 2) (by simpa using hl) (by simpa using hm) a ha hb
    omega
  · exact k.nd (l + 2) (by simpa using hl)
  · simp at m
    rcases m with rfl | rfl
    · exact k2 a (by rw [hf]; simp)
    · exact u3 a (by rw [hg]; simp)
  · simp at m
    rcases m with rfl | rfl
    · exact ownp
    · exact ownq
  · simp at m
    rcases m with rfl | rfl
    · have := k.sep (l + 2) 0 (by simpa using hl) l0 a ha (by rw [hf]; simp); omega
    · have := k.sep (l + 2) 1 (by simpa using hl) l1 a ha (by rw [hg]; simp); omega
end
section
variable {X : Cx} {R I Ω : Type} {SR : Stor R} {envR : I → Env} {kr : R → I → Option Ω} {bk ct : Lp Ω} {env : Env} {nm nm2 : Str} {pos : Pos} {a b e : Expr} {rest : List Stmt} {P P1 P2 : Type} {J : Type} {envJ : J → Env} {e' : P → Env} {e1 : P1 → Env} {e2 : P1 → P2 → Env}
/-- cells = state[1] -/
theorem lb_alias {f : (J → Option Ω) → Option Ω} {w : V} {t : TSt} {p1 p2 cp sp : Pos} {k : Nat} (i j : Nat) (hN : X.N.Nodup) (he : env[i]? = some (.st (some w) TSt stT t)) (hj : env[j]? = some .un)
    (hr : ∀ q, LB X SR envR kr bk ct ((env.set i (.st (some w) Int (stA q) t.1)).set j (.st (some (.ref q)) (List Int) (ls (it eI)) t.2)) rest envJ f)
    (hi : X.N[i]? = some nm := by rfl) (hv_nm : Vis X.env.scope nm := by first | exact Or.inl rfl | exact Or.inr (Or.inl rfl) | exact Or.inr (Or.inr rfl)) (hd : (nm == ("__debug__" : Str)) = false := by decide) (hcd : (nm == ("__classdict__" : Str)) = false := by decide)
    (hi2 : X.N[j]? = some nm2 := by rfl) (hx : Loc X.env.scope nm2 := by first | exact Or.inl rfl | exact Or.inr rfl) (hf : X.fn nm2 = true ∨ X.env.scope.names.lookup nm2 = some .local := by first | exact .inl rfl | exact .inr rfl)
    (hs : swapsWith (.Subscript (.Name nm p1) (.Constant (.int 1) k cp) sp) (some (.Name nm2 p2)) pos.line X.env = pure false := by rfl) :
    LB X SR envR kr bk ct env (.Assign [.Name nm2 p2] (.Subscript (.Name nm p1) (.Constant (.int 1) k cp) sp) pos :: rest) envJ f :=
  fun C F H σs es σ kn ω D hK hl h hk qn qb qc qr => tSs.of X (pss_cons (ps_set hN hi2 hx (pe_ix ix_list (pe_var hi hv_nm hd hcd) pe_int fun _ _ => rfl) hs hf) (pssC X)) (by
    obtain ⟨p, q, s1, h1, h2⟩ := h.split (i := es.length + i) (j := es.length + j) (by rw [at_app _ rfl]; exact he) (by rw [at_app _ rfl]; exact hj)
    rw [at_app _ hl] at s1
    rw [← hl, List.set_append_right _ _ (Nat.le_add_right _ _), Nat.add_sub_cancel_left, hl, List.set_append_right _ _ (Nat.le_add_right _ _), Nat.add_sub_cancel_left, List.set_append_right _ _ (Nat.le_add_right _ _), Nat.add_sub_cancel_left] at h2
    exact ⟨_, s1, p, [.int t.1, .ref q], 1, .ref q, rfl, rfl, SqL.of h1, rfl, hr q C F H σs es _ kn ω D hK hl h2 hk qn qb qc qr⟩)
/-- the list is the state's again -/
theorem lb_join {sts : List Stmt} {f : (J → Option Ω) → Option Ω} {w : V} {q : Addr} {n : Int} {cs : List Int} (i j : Nat) (he : env[i]? = some (.st (some w) Int (stA q) n)) (hj : env[j]? = some (.st (some (.ref q)) (List Int) (ls (it eI)) cs))
    (hr : LB X SR envR kr bk ct ((env.set i (.st (some w) TSt stT (n, cs))).set j .un) sts envJ f) : LB X SR envR kr bk ct env sts envJ f :=
  fun C F H σs es σ kn ω D hK hl h hk qn qb qc qr => by
    have h2 := h.join (i := es.length + i) (j := es.length + j) (by rw [at_app _ rfl]; exact he) (by rw [at_app _ rfl]; exact hj)
    rw [List.set_append_right _ _ (Nat.le_add_right _ _), Nat.add_sub_cancel_left, List.set_append_right _ _ (Nat.le_add_right _ _), Nat.add_sub_cancel_left] at h2
    exact hr C F H σs es σ kn ω D hK hl h2 hk qn qb qc qr
/-- state[0] -/
theorem lx_st0 {w : Option V} {q : Addr} {n : Int} {p1 cp sp : Pos} {k : Nat} (i : Nat) (he : env[i]? = some (.st w Int (stA q) n)) (hi : X.N[i]? = some nm := by rfl) (hv_nm : Vis X.env.scope nm := by first | exact Or.inl rfl | exact Or.inr (Or.inl rfl) | exact Or.inr (Or.inr rfl)) (hd : (nm == ("__debug__" : Str)) = false := by decide) (hcd : (nm == ("__classdict__" : Str)) = false := by decide) :
    LX X env (.Subscript (.Name nm p1) (.Constant (.int 0) k cp) sp) (it eI) (fun _ : Unit => env) (fun (k : Int → Unit → Option Ω) => k n ()) :=
  fun C F H σs es σ k ω Q hK hl h hk q => tE.of X (pe_ix ix_list (pe_var hi hv_nm hd hcd) pe_int fun _ _ => rfl) (by
    obtain ⟨v, fp, e1, p, rfl, h1, _⟩ := h.lookF hl he
    exact ⟨_, e1, p, _, 0, .int n, rfl, rfl, SqL.of h1, rfl, q n () _ F H hk (h.pushSh (.int n))⟩)
/-- state[0] = e -/
theorem lb_st0 {f : (Int → P → Option Ω) → Option Ω} {fr : Int → P → (J → Option Ω) → Option Ω} {w : Option V} {q : Addr} {n : P → Int} {p1 cp sp : Pos} {k : Nat} (i : Nat) (he : LX X env e (it eI) e' f) (h1 : ∀ p, (e' p)[i]? = some (.st w Int (stA q) (n p)))
    (hr : ∀ y p, LB X SR envR kr bk ct ((e' p).set i (.st w Int (stA q) y)) rest envJ (fr y p)) (hi : X.N[i]? = some nm := by rfl) (hv_nm : Vis X.env.scope nm := by first | exact Or.inl rfl | exact Or.inr (Or.inl rfl) | exact Or.inr (Or.inr rfl)) (hd : (nm == ("__debug__" : Str)) = false := by decide) (hcd : (nm == ("__classdict__" : Str)) = false := by decide)
    (ha : ∀ v, assign (.Subscript (.Name nm p1) (.Constant (.int 0) k cp) sp) X.env v = (do
      let ov ← holding [v] (eval (.Name nm p1) X.env)
      let iv ← holding [v, ov] (eval (.Constant (.int 0) k cp) X.env)
      standAt sp
      holding [v, ov, iv] (setItem ov iv v)
      release [v, ov, iv] []) := by intro _; rfl)
    (hs : swapsWithSole [.Subscript (.Name nm p1) (.Constant (.int 0) k cp) sp] e pos.line X.env = pure false := by rfl) (hw : swappedStores [.Subscript (.Name nm p1) (.Constant (.int 0) k cp) sp] e X.env = pure none := by rfl) (ha1 : (assignEach [.Subscript (.Name nm p1) (.Constant (.int 0) k cp) sp] X.env).map (·.2) = [assign (.Subscript (.Name nm p1) (.Constant (.int 0) k cp) sp) X.env] := by rfl) :
    LB X SR envR kr bk ct env (.Assign [.Subscript (.Name nm p1) (.Constant (.int 0) k cp) sp] e pos :: rest) envJ (fun kn => f fun y p => fr y p kn) :=
  fun C F H σs es σ kn ω D hK hl h hk qn qb qc qr => tSs.of X (pss_cons (ps_asg (peC X) (pg_sub (pe_var hi hv_nm hd hcd) pe_int set_list ha) hs hw ha1) (pssC X)) (he C F H σs es σ _ ω _ hK hl h hk fun y p v F' H' hk' h' => by
    have hvy : v = .int y := by
      obtain ⟨v', fp, e1, r⟩ := h'.look (i := 0) rfl
      simp at e1; subst e1
      obtain ⟨_, r⟩ := r
      cases r; rfl
    subst hvy
    obtain ⟨l, fp, e1, r1, nd, ow, fin⟩ := (ER.pop h').mut (i := es.length + i) (by rw [at_app _ rfl]; exact h1 p)
    rw [at_app _ hl] at e1
    obtain ⟨p0, rfl, h2, rfl⟩ := r1
    refine ⟨_, e1, p0, _, 0, 0, rfl, rfl, h2, rfl, ?_⟩
    have fin' := fin Int (stA q) y (upd H' p0 (.lst [.int y, .ref q])) [p0] (fun a na _ => upd_ne fun z => na (by rw [z]; simp)) (fun a m => ?_) ⟨p0, rfl, upd_same, rfl⟩ (by simp) (fun a m => ?_)
    · rw [List.set_append_right _ _ (Nat.le_add_right _ _), Nat.add_sub_cancel_left] at fin'
      exact hr y p C F' _ σs es σ kn ω D hK hl fin' hk' qn qb qc qr
    · by_cases z : a = p0
      · subst z; rw [upd_same]; exact fun z => by cases z
      · rw [upd_ne z]; exact m
    · simp at m; subst m
      exact ⟨by rw [upd_same]; exact (fun z => by cases z), .inl (by simp)⟩)
/-- [n, cells] -/
theorem lx_st {fa : (Int → P1 → Option Ω) → Option Ω} {fb : P1 → (List Int → P2 → Option Ω) → Option Ω} (ha : LX X env a (it eI) e1 fa) (hb : ∀ p, LX X (e1 p) b (ls (it eI)) (e2 p) (fb p))
    (hs : starEach [a, b] X.env = (false, eval a X.env) :: starEach [b] X.env := by rfl) (hs2 : starEach [b] X.env = (false, eval b X.env) :: starEach [] X.env := by rfl) :
    LX X env (.List [a, b] pos) stT (fun p : P1 × P2 => e2 p.1 p.2) (fun k => fa fun x p1 => fb p1 fun y p2 => k (x, y) (p1, p2)) :=
  fun C F H σs es σ k ω Q hK hl h hk q => tE.of X (pe_lst (pa_cons (peC X) (pa_cons (peC X) pa_nil hs2) hs)) (ha C F H σs es σ _ ω _ hK hl h hk fun x p1 v F1 H1 hk1 h1 =>
    hb p1 C F1 H1 (some v :: σs) (.st none Int (it eI) x :: es) σ _ ω _ hK (by simp [hl]) h1 hk1 fun y p2 u F2 H2 hk2 h2 => by
      have hvx : v = .int x := by
        obtain ⟨v', fp, e1, r⟩ := h2.look (i := 1) rfl
        simp at e1; subst e1
        obtain ⟨_, r⟩ := r
        cases r; rfl
      subst hvx
      obtain ⟨u', fp, e1, q0, vs, fps, rfl, hq, _, _⟩ := h2.look (i := 0) rfl
      simp at e1; subst e1
      refine ⟨by show 2 ≤ sizeLine; rw [SZ_eq]; decide, fun t nt => ?_⟩
      have z2 : ER C F2 H2 ([some (.ref q0)] ++ some (.int x) :: (σs ++ σ)) ([.st none (List Int) (ls (it eI)) y] ++ .st none Int (it eI) x :: (es ++ e2 p1 p2)) := h2
      have h3 : ER C F2 H2 (some (.ref q0) :: (σs ++ σ)) (.st none (List Int) (ls (it eI)) y :: (es ++ e2 p1 p2)) := ER.pop (ER.rot z2 rfl)
      have h4 := h3.newOw (S := stA q0) (x := x) (v := .ref t) nt ⟨t, rfl, upd_same, rfl⟩
      exact q (x, y) (p1, p2) (.ref t) F2 _ hk2 h4.joinTop)
/-- x, y = a, b -/
theorem lb_par {τ1 τ2 : Type} {S1 : Stor τ1} {S2 : Stor τ2} {f : ((τ1 × τ2 × Unit) → P → Option Ω) → Option Ω} {fr : τ1 → τ2 → P → (J → Option Ω) → Option Ω} {px py pt : Pos} {kt k2 : Nat} {pt2 : Pos} (i j : Nat) (hN : X.N.Nodup) (hc : X.calm = true) (ha : LA X env [a, b] (fun p : τ1 × τ2 × Unit => [.st none τ1 S1 p.1, .st none τ2 S2 p.2.1]) e' f)
    (hr : ∀ x y p, LB X SR envR kr bk ct (((e' p).set i (.st none τ1 S1 x)).set j (.st none τ2 S2 y)) rest envJ (fr x y p))
    (hi : X.N[i]? = some nm := by rfl) (hj : X.N[j]? = some nm2 := by rfl) (hij : i ≠ j := by decide) (hx : X.env.scope.names.lookup nm = some .local := by rfl) (hy : X.env.scope.names.lookup nm2 = some .local := by rfl)
    (hli : ∀ p, i < (e' p).length := by exact (fun _ => Nat.lt_of_sub_eq_succ rfl)) (hlj : ∀ p, j < (e' p).length := by exact (fun _ => Nat.lt_of_sub_eq_succ rfl))
    (hw : swappedStores [.Tuple [.Name nm px, .Name nm2 py] kt pt] (.Tuple [a, b] k2 pt2) X.env = pure (some [nm, nm2]) := by rfl)
    (hs : swapsWithSole [.Tuple [.Name nm px, .Name nm2 py] kt pt] (.Tuple [a, b] k2 pt2) pos.line X.env = pure false := by rfl) :
    LB X SR envR kr bk ct env (.Assign [.Tuple [.Name nm px, .Name nm2 py] kt pt] (.Tuple [a, b] k2 pt2) pos :: rest) envJ (fun kn => f fun r p => fr r.1 r.2.1 p kn) :=
  fun C F H σs es σ kn ω D hK hl h hk qn qb qc qr => tSs.of X (pss_cons (ps_par hc hN hi hj hij hx hy (paC X) hw hs) (pssC X)) (ha C F H σs es σ _ ω _ hK hl h hk fun r p vs F' H' hk' hv h' => by
    match vs, hv with
    | [v, u], _ =>
      refine ⟨v, u, rfl, ?_⟩
      have h2 := ER.asg (σs := some u :: σs) (es := .st none τ2 S2 r.2.1 :: es) (σ := σ) (env := e' p) h' (by simp [hl]) (hli p)
      have h3 := ER.asg (σs := σs) (es := es) (σ := σ.set i (some v)) h2 hl (by simpa using hlj p)
      exact hr r.1 r.2.1 p C F' H' σs es _ kn ω D hK hl h3 hk' qn qb qc qr)
/-- from a law's call to its def's promise -/
theorem law_sp {K : Fg} {H : Hp} {a : Addr} {ns : List Int} {m : List Int × Unit → Option Bool} {Q : VK} {E : XK} (hS : SqL K H a (ns.map V.int)) (hm : m (ns, ()) = some true) (q : ∀ H', Q (.bl true) H') :
    spP K (fun a : List Int × Unit => [.st none (List Int) scr a.1]) (it eB) m [.ref a] H Q E := by
  refine ⟨H, H, (ns, ()), true, hm, rfl, ⟨fun _ _ e => e, fun _ _ e => e, fun _ m => .inl m, fun _ m => m, rfl, fun _ => [], fun i s e => ?_, fun i hi a ha => (nomatch ha), fun i j _ _ a ha => (nomatch ha), fun i _ => List.nodup_nil⟩, fun F' H' v h => ?_⟩
  · match i, e with
    | 0, e =>
      cases e
      exact ⟨_, rfl, ⟨rfl, a, rfl, hS⟩, fun _ m => nomatch m⟩
    | i + 1, e => simp at e
  · have hv : v = .bl true := by
      obtain ⟨v', fp, e1, r⟩ := h.look (i := 0) rfl
      simp at e1; subst e1
      obtain ⟨_, r⟩ := r
      cases r; rfl
    rw [hv]; exact q H'
end
end Z

set_option Elab.async false
set_option linter.all false
set_option maxRecDepth 100000
namespace Z
open PySem PySem.Spec PyProof.Rows L2

/-! ### the mirrors in plain words -/
section
variable {α β S Ω : Type}
theorem ixN_nat {n i : Nat} (h : i < n) : ixN n (i : Int) = some i := by
  unfold ixN
  rw [if_pos (by omega), if_pos (by omega), Int.toNat_natCast]
theorem atI_nat {xs : List α} {i : Nat} (h : i < xs.length) : atI xs (i : Int) = some xs[i] := by
  unfold atI
  rw [ixN_nat h]
  exact List.getElem?_eq_getElem h
theorem atI_pos {xs : List α} {i : Int} (h0 : 0 ≤ i) (h1 : i < xs.length) : ∃ (k : Nat) (h : k < xs.length), i = k ∧ atI xs i = some xs[k] :=
  by
  obtain ⟨k, rfl⟩ := Int.eq_ofNat_of_zero_le h0
  exact ⟨k, by omega, rfl, atI_nat (by omega)⟩
theorem rangeL_nat (n : Nat) : rangeL 0 (n : Int) = (List.range n).map fun i : Nat => ((i : Nat) : Int) := by
  unfold rangeL
  simp
theorem mem_rangeL {n : Nat} {x : Int} : x ∈ rangeL 0 (n : Int) ↔ ∃ i : Nat, i < n ∧ x = i := by
  rw [rangeL_nat]
  simp only [List.mem_map, List.mem_range]
  exact ⟨fun ⟨i, h, e⟩ => ⟨i, h, e.symm⟩, fun ⟨i, h, e⟩ => ⟨i, h, e.symm⟩⟩
theorem rgOk_nat {n : Nat} (h : n < 2 ^ 62) : rgOk 0 (n : Int) = true := by
  unfold rgOk
  have h2 : (n : Int) < 2 ^ 62 := by exact_mod_cast h
  exact decide_eq_true ⟨by decide, by decide, by omega, h2⟩
theorem mulOk_l {i j : Int} (h0 : 0 ≤ i) (h : i < 2 ^ 64) : mulOk i j = true := decide_eq_true (.inl ⟨by omega, h⟩)
theorem mulOk_r {i j : Int} (h0 : 0 ≤ j) (h : j < 2 ^ 64) : mulOk i j = true := decide_eq_true (.inr ⟨by omega, h⟩)
theorem divOk_pos {j : Int} (h0 : 0 < j) (h : j < 1073741824) : divOk j = true := decide_eq_true ⟨by omega, by omega⟩
theorem modOk_pos {j : Int} (h0 : 0 < j) : modOk j = true := decide_eq_true (by omega)
theorem ck_wp {b : Bool} {k : Option Ω} {ω : Ω} (h : b = true) (hk : k = some ω) : ck b k = some ω := by rw [h]; exact hk
theorem bind_wp {o : Option α} {k : α → Option Ω} {ω : Ω} {a : α} (h : o = some a) (hk : k a = some ω) : o.bind k = some ω := by rw [h]; exact hk
/-- a for, by an invariant over the turns -/
theorem forO_wpN {ω : Ω} (Inv : Nat → S → Prop) {b : α → S → (S → Option Ω) → Option Ω} {k : S → Option Ω} : ∀ (xs : List α) (n : Nat) (s : S), Inv n s →
    (∀ i s x, xs[i]? = some x → Inv (n + i) s → ∀ kc : S → Option Ω, (∀ s', Inv (n + i + 1) s' → kc s' = some ω) → b x s kc = some ω) → (∀ s, Inv (n + xs.length) s → k s = some ω) → forO xs s b k = some ω
  | [], n, s, h0, _, he => he s h0
  | x :: xs, n, s, h0, hs, he => hs 0 s x rfl h0 _ fun s' h' => forO_wpN Inv xs (n + 1) s' h'
      (fun i s y e h kc hk => hs (i + 1) s y e (by rw [show n + (i + 1) = n + 1 + i by omega]; exact h) kc fun s' h' => hk s' (by rw [show n + 1 + i + 1 = n + (i + 1) + 1 by omega]; exact h'))
      fun s h => he s (by rw [show n + (x :: xs).length = n + 1 + xs.length by simp; omega]; exact h)
/-- .. by one that stays -/
theorem forO_wp {ω : Ω} (Inv : S → Prop) {b : α → S → (S → Option Ω) → Option Ω} {k : S → Option Ω} {xs : List α} {s : S} (h0 : Inv s)
    (hs : ∀ s x, x ∈ xs → Inv s → ∀ kc : S → Option Ω, (∀ s', Inv s' → kc s' = some ω) → b x s kc = some ω) (he : ∀ s, Inv s → k s = some ω) : forO xs s b k = some ω :=
  forO_wpN (fun _ => Inv) xs 0 s h0 (fun i s x e h kc hk => hs s x (List.mem_of_getElem? e) h kc hk) he
theorem forO_fold (g : S → α → S) {b : α → S → (S → Option Ω) → Option Ω} {k : S → Option Ω} : ∀ (xs : List α) (s : S), (∀ x ∈ xs, ∀ s kc, b x s kc = kc (g s x)) → forO xs s b k = k (xs.foldl g s)
  | [], s, _ => rfl
  | x :: xs, s, h => (h x (List.mem_cons_self ..) s _).trans (forO_fold g xs (g s x) fun y m => h y (List.mem_cons_of_mem _ m))
/-- two walks that go alike: both end with one answer, or both go on -/
theorem forO_two {Pr : Ω → Prop} {b1 b2 : α → Unit → (Unit → Option Ω) → Option Ω} : ∀ (xs : List α), (∀ x ∈ xs, (∃ r, Pr r ∧ ∀ k1 k2, b1 x () k1 = some r ∧ b2 x () k2 = some r) ∨ (∀ k1 k2, b1 x () k1 = k1 () ∧ b2 x () k2 = k2 ())) →
    (∃ r, Pr r ∧ ∀ k1 k2, forO xs () b1 k1 = some r ∧ forO xs () b2 k2 = some r) ∨ (∀ k1 k2, forO xs () b1 k1 = k1 () ∧ forO xs () b2 k2 = k2 ())
  | [], _ => .inr fun _ _ => ⟨rfl, rfl⟩
  | x :: xs, h => by
    rcases h x (List.mem_cons_self ..) with ⟨r, hr, h1⟩ | h1
    · exact .inl ⟨r, hr, fun k1 k2 => h1 _ _⟩
    · rcases forO_two xs (fun y m => h y (List.mem_cons_of_mem _ m)) with ⟨r, hr, h2⟩ | h2
      · exact .inl ⟨r, hr, fun k1 k2 => ⟨(h1 (fun _ => forO xs () b1 k1) (fun _ => forO xs () b2 k2)).1.trans (h2 k1 k2).1, (h1 (fun _ => forO xs () b1 k1) (fun _ => forO xs () b2 k2)).2.trans (h2 k1 k2).2⟩⟩
      · exact .inr fun k1 k2 => ⟨(h1 (fun _ => forO xs () b1 k1) (fun _ => forO xs () b2 k2)).1.trans (h2 k1 k2).1, (h1 (fun _ => forO xs () b1 k1) (fun _ => forO xs () b2 k2)).2.trans (h2 k1 k2).2⟩
/-- a walk that always goes on -/
theorem forO_skip {b : α → Unit → (Unit → Option Ω) → Option Ω} {k : Unit → Option Ω} : ∀ (xs : List α), (∀ x ∈ xs, ∀ kc, b x () kc = kc ()) → forO xs () b k = k ()
  | [], _ => rfl
  | x :: xs, h => (h x (List.mem_cons_self ..) _).trans (forO_skip xs fun y m => h y (List.mem_cons_of_mem _ m))
/-- a comprehension, by an invariant -/
theorem compO_wp {ω : Ω} (Inv : S → Prop) (Pe : β → Prop) {b : α → S → (Option β → S → Option Ω) → Option Ω} {k : List β → S → Option Ω} : ∀ (xs : List α) (s : S) (acc : List β), Inv s → (∀ y ∈ acc, Pe y) → acc.length + xs.length ≤ SZ →
    (∀ s x, x ∈ xs → Inv s → ∀ kc : Option β → S → Option Ω, (∀ y s', Pe y → Inv s' → kc (some y) s' = some ω) → b x s kc = some ω) → (∀ ys s, ys.length = acc.length + xs.length → (∀ y ∈ ys, Pe y) → Inv s → k ys s = some ω) → compO xs s b acc k = some ω
  | [], s, acc, h0, ha, _, _, he => he acc s rfl ha h0
  | x :: xs, s, acc, h0, ha, hl, hs, he => hs s x (List.mem_cons_self ..) h0 _ fun y s' hy h' => by
    have hl' : acc.length + 1 + xs.length ≤ SZ := by simpa [Nat.add_assoc, Nat.add_comm 1] using hl
    refine ck_wp (decide_eq_true (by omega)) (compO_wp Inv Pe xs s' (acc ++ [y]) h' (fun z m => ?_) (by simpa using hl') (fun s z m => hs s z (List.mem_cons_of_mem _ m)) fun ys s e => he ys s (by simp at e ⊢; omega))
    rcases List.mem_append.1 m with m | m
    · exact ha z m
    · simp at m; subst m; exact hy
/-- .. that maps -/
theorem compO_map (g : α → β) {b : α → S → (Option β → S → Option Ω) → Option Ω} {k : List β → S → Option Ω} (s : S) : ∀ (xs : List α) (acc : List β), acc.length + xs.length ≤ SZ → (∀ x ∈ xs, ∀ kc, b x s kc = kc (some (g x)) s) → compO xs s b acc k = k (acc ++ xs.map g) s
  | [], acc, _, _ => by simp [compO]
  | x :: xs, acc, hl, h => by
    have hl' : acc.length + 1 + xs.length ≤ SZ := by simpa [Nat.add_assoc, Nat.add_comm 1] using hl
    refine (h x (List.mem_cons_self ..) _).trans ?_
    show ck _ _ = _
    rw [decide_eq_true (show acc.length < SZ by omega), ck_true, compO_map g s xs (acc ++ [g x]) (by simpa using hl') fun y m => h y (List.mem_cons_of_mem _ m)]
    simp
/-- .. that sifts and maps -/
theorem compO_filterMap (g : α → Option β) {b : α → S → (Option β → S → Option Ω) → Option Ω} {k : List β → S → Option Ω} (s : S) : ∀ (xs : List α) (acc : List β), acc.length + xs.length ≤ SZ → (∀ x ∈ xs, ∀ kc, b x s kc = kc (g x) s) → compO xs s b acc k = k (acc ++ xs.filterMap g) s
  | [], acc, _, _ => by simp [compO]
  | x :: xs, acc, hl, h => by
    have hl' : acc.length + 1 + xs.length ≤ SZ := by simpa [Nat.add_assoc, Nat.add_comm 1] using hl
    refine (h x (List.mem_cons_self ..) _).trans ?_
    cases e : g x with
    | some y =>
      show ck _ _ = _
      rw [decide_eq_true (show acc.length < SZ by omega), ck_true, compO_filterMap g s xs (acc ++ [y]) (by simpa using hl') fun y m => h y (List.mem_cons_of_mem _ m)]
      simp [e]
    | none =>
      show compO xs s b acc k = _
      rw [compO_filterMap g s xs acc (by omega) fun y m => h y (List.mem_cons_of_mem _ m)]
      simp [e]
end
/-! ### the drawing of the laws -/
def takeM (t0 : TSt) (a_most : Int) : Option (Int × TSt) :=
  ck (modOk (List.length t0.2 : Int)) (let v_at : Int := (Int.fmod t0.1 (List.length t0.2 : Int))
  (atI t0.2 v_at).bind fun y =>
  let v_cell : Int := y
  if (decide ((1000000000000000000 : Int) ≤ v_cell)) = true then (
    ck (divOk a_most) ((ixN (List.length t0.2) v_at).bind fun n =>
    let z : (List Int) := List.set t0.2 n (Int.fdiv v_cell a_most)
    ck (modOk a_most) (some ((Int.fmod v_cell a_most), (t0.1, z)))))
  else (
    let v_n : Int := (t0.1 + (1 : Int))
    ck (mulOk v_cell (48271 : Int)) (ck (mulOk v_n (69621 : Int)) (ck (modOk (2147483647 : Int)) (let v_mixed : Int := (Int.fmod ((v_cell * (48271 : Int)) + (v_n * (69621 : Int))) (2147483647 : Int))
    ck (mulOk v_mixed (16807 : Int)) (ck (mulOk v_n (7919 : Int)) (ck (modOk (1000000007 : Int)) (let v_mixed2 : Int := (Int.fmod ((v_mixed * (16807 : Int)) + (v_n * (7919 : Int))) (1000000007 : Int))
    ck (divOk (7 : Int)) (ck (modOk a_most) (some ((Int.fmod (Int.fdiv v_mixed2 (7 : Int)) a_most), (v_n, t0.2))))))))))))
theorem take_ok {t : TSt} {m : Int} (ht : t.2 ≠ []) (h0 : 0 < m) (h1 : m < 1073741824) : ∃ v t', takeM t m = some (v, t') ∧ 0 ≤ v ∧ v < m ∧ t'.2 ≠ [] := by
  have hl : 0 < t.2.length := List.length_pos_iff.2 ht
  have hl' : (0 : Int) < (t.2.length : Int) := by omega
  have a0 := Int.fmod_nonneg_of_pos t.1 hl'
  have a1 := Int.fmod_lt_of_pos t.1 hl'
  obtain ⟨k, hk, e, ea⟩ := atI_pos (xs := t.2) a0 a1
  unfold takeM
  rw [modOk_pos hl', ck_true]
  show ∃ v t', (atI t.2 (Int.fmod t.1 t.2.length)).bind _ = _ ∧ _
  rw [ea]
  show ∃ v t', (if (decide ((1000000000000000000 : Int) ≤ t.2[k])) = true then _ else _) = _ ∧ _
  by_cases c : (1000000000000000000 : Int) ≤ t.2[k]
  · rw [if_pos (decide_eq_true c), divOk_pos h0 h1, ck_true, e, ixN_nat hk]
    show ∃ v t', ck (modOk m) _ = _ ∧ _
    rw [modOk_pos h0, ck_true]
    refine ⟨_, _, rfl, Int.fmod_nonneg_of_pos _ h0, Int.fmod_lt_of_pos _ h0, fun z => ?_⟩
    exact ht (by simpa using z)
  · rw [if_neg (by simpa using c)]
    show ∃ v t', ck (mulOk _ 48271) (ck (mulOk _ 69621) (ck (modOk 2147483647) (ck (mulOk _ 16807) (ck (mulOk _ 7919) (ck (modOk 1000000007) (ck (divOk 7) (ck (modOk m) (some _)))))))) = _ ∧ _
    rw [mulOk_r (by decide) (by decide), mulOk_r (by decide) (by decide), mulOk_r (by decide) (by decide), mulOk_r (by decide) (by decide), modOk_pos (by decide), modOk_pos (by decide), divOk_pos (by decide) (by decide), modOk_pos h0]
    simp only [ck_true]
    exact ⟨_, _, rfl, Int.fmod_nonneg_of_pos _ h0, Int.fmod_lt_of_pos _ h0, ht⟩
theorem take_wp {Ω : Type} {t : TSt} {m : Int} {k : Int × TSt → Option Ω} {ω : Ω} (ht : t.2 ≠ []) (h0 : 0 < m) (h1 : m < 1073741824) (hk : ∀ v t', 0 ≤ v → v < m → t'.2 ≠ [] → k (v, t') = some ω) : (takeM t m).bind k = some ω := by
  obtain ⟨v, t', e, a, b, c⟩ := take_ok ht h0 h1
  exact bind_wp e (hk v t' a b c)
def stateM (a_script : List Int) : Option TSt :=
  compO (cutL a_script none (some (63 : Int))) () (fun x (t : Unit) kc => (
    kc (some (if x < 0 then -x else x)) ())) [] fun (ys : List Int) (t : Unit) => (
    let v_cells : (List Int) := ys
    let k := fun j : (List Int) => (
      some ((0 : Int), j))
    if (decide ((List.length v_cells : Int) = (0 : Int))) = true then (
      let v_cells2 : (List Int) := [(0 : Int)]
      k v_cells2)
    else (
      k v_cells))
theorem cutL_len {α : Type} (xs : List α) (a b : Option Int) : (cutL xs a b).length ≤ xs.length := by
  unfold cutL
  simp; omega
theorem state_ok {ns : List Int} (h : ns.length ≤ 63) : ∃ t, stateM ns = some t ∧ t.2 ≠ [] := by
  unfold stateM
  rw [compO_map (fun x : Int => if x < 0 then -x else x) () _ [] (by have := cutL_len ns none (some 63); show _ ≤ 16777216; simp; omega) (fun _ _ _ => rfl)]
  show ∃ t, (if decide _ = true then _ else _) = some t ∧ _
  split
  · exact ⟨_, rfl, by simp⟩
  · rename_i c
    exact ⟨_, rfl, fun z => c (decide_eq_true (by rw [show List.length _ = 0 from congrArg List.length z]; rfl))⟩
end Z

set_option Elab.async false
set_option linter.all false
set_option maxRecDepth 100000
namespace Z
open PySem PySem.Spec PyProof.Rows L2

/-! ### a list with parts of their own kinds, that is changed part by part -/
def lsR {τ : Type} (E : Enc τ) : Stor τ where
  rel := fun K F H fp v t => ∃ p vs ds, v = .ref p ∧ H p = some (.lst vs) ∧ E.enc t = .tuple ds ∧ RepAll K F vs ds ∧ fp = [p]
  monoF := fun s h => by
    obtain ⟨p, vs, ds, rfl, hp, e, r, rfl⟩ := h
    exact ⟨p, vs, ds, rfl, hp, e, r.mono s, rfl⟩
  frame := fun f h => by
    obtain ⟨p, vs, ds, rfl, hp, e, r, rfl⟩ := h
    exact ⟨p, vs, ds, rfl, by rw [f p List.mem_cons_self]; exact hp, e, r, rfl⟩
/-- another value at the n-th part -/
structure PartS (E : Enc τ) (n : Int) (E1 : Enc α) (u : τ → α → τ) : Prop where
  is : ∀ x y, ∃ ds j, E.enc x = .tuple ds ∧ ixN ds.length n = some j ∧ E.enc (u x y) = .tuple (ds.set j (E1.enc y))
theorem parts2_0 {A : Enc α} {B : Enc β} : PartS (eT2 A B) 0 A (fun x y => (y, x.2)) := ⟨fun _ _ => ⟨_, _, rfl, rfl, rfl⟩⟩
theorem parts2_1 {A : Enc α} {B : Enc β} : PartS (eT2 A B) 1 B (fun x y => (x.1, y)) := ⟨fun _ _ => ⟨_, _, rfl, rfl, rfl⟩⟩
theorem parts3_0 {γ : Type} {A : Enc α} {B : Enc β} {D : Enc γ} : PartS (eT3 A B D) 0 A (fun x y => (y, x.2)) := ⟨fun _ _ => ⟨_, _, rfl, rfl, rfl⟩⟩
theorem parts3_1 {γ : Type} {A : Enc α} {B : Enc β} {D : Enc γ} : PartS (eT3 A B D) 1 B (fun x y => (x.1, y, x.2.2)) := ⟨fun _ _ => ⟨_, _, rfl, rfl, rfl⟩⟩
theorem parts3_2 {γ : Type} {A : Enc α} {B : Enc β} {D : Enc γ} : PartS (eT3 A B D) 2 D (fun x y => (x.1, x.2.1, y)) := ⟨fun _ _ => ⟨_, _, rfl, rfl, rfl⟩⟩
theorem parts4_0 {γ δ : Type} {A : Enc α} {B : Enc β} {D : Enc γ} {D' : Enc δ} : PartS (eT4 A B D D') 0 A (fun x y => (y, x.2)) := ⟨fun _ _ => ⟨_, _, rfl, rfl, rfl⟩⟩
theorem parts4_1 {γ δ : Type} {A : Enc α} {B : Enc β} {D : Enc γ} {D' : Enc δ} : PartS (eT4 A B D D') 1 B (fun x y => (x.1, y, x.2.2)) := ⟨fun _ _ => ⟨_, _, rfl, rfl, rfl⟩⟩
theorem parts4_2 {γ δ : Type} {A : Enc α} {B : Enc β} {D : Enc γ} {D' : Enc δ} : PartS (eT4 A B D D') 2 D (fun x y => (x.1, x.2.1, y, x.2.2.2)) := ⟨fun _ _ => ⟨_, _, rfl, rfl, rfl⟩⟩
theorem parts4_3 {γ δ : Type} {A : Enc α} {B : Enc β} {D : Enc γ} {D' : Enc δ} : PartS (eT4 A B D D') 3 D' (fun x y => (x.1, x.2.1, x.2.2.1, y)) := ⟨fun _ _ => ⟨_, _, rfl, rfl, rfl⟩⟩
section
variable {X : Cx} {R I Ω : Type} {SR : Stor R} {envR : I → Env} {kr : R → I → Option Ω} {bk ct : Lp Ω} {env : Env} {nm : Str} {pos : Pos} {a b e : Expr} {xs : List Expr} {rest : List Stmt} {P A : Type} {J : Type} {envJ : J → Env} {e' : P → Env} {τ α : Type} {E : Enc τ} {E1 : Enc α}
/-- [a, 0, ..] -/
theorem lx_row {sl : A → Env} {fs : (A → P → Option Ω) → Option Ω} (h : LA X env xs sl e' fs) (E : Enc τ) (g : A → τ) (ds : A → List PyData) (hd : ∀ a, ShL (sl a) (ds a)) (he : ∀ a, E.enc (g a) = .tuple (ds a)) (hz : xs.length ≤ 1000 := by decide) (hz2 : ∀ a, (sl a).length = xs.length := by intro _; rfl) :
    LX X env (.List xs pos) (lsR E) e' (fun k => fs fun a p => k (g a) p) :=
  fun C F H σs es σ k ω Q hK hl hr hk q => tE.of X (pe_lst (paC X)) (h C F H σs es σ _ ω _ hK hl hr hk fun a p vs F' H' hk' hlv h' => by
    refine ⟨?_, fun t nt => ?_⟩
    · have := hz2 a; simp at hlv; exact Nat.le_of_lt (small1000 (by omega))
    · have r := (hd a).rep hlv h'
      exact q (g a) p (.ref t) F' _ hk' ((h'.popN hlv).newOw nt ⟨t, vs, ds a, rfl, upd_same, he a, r, rfl⟩))
/-- row[n] -/
theorem lx_rowAt {w : Option V} {t : τ} {n : Int} {g : τ → α} {p1 cp sp : Pos} {k : Nat} (i : Nat) (hp : Part E n E1 g) (he : env[i]? = some (.st w τ (lsR E) t)) (hi : X.N[i]? = some nm := by rfl) (hv_nm : Vis X.env.scope nm := by first | exact Or.inl rfl | exact Or.inr (Or.inl rfl) | exact Or.inr (Or.inr rfl)) (hd : (nm == ("__debug__" : Str)) = false := by decide) (hcd : (nm == ("__classdict__" : Str)) = false := by decide) :
    LX X env (.Subscript (.Name nm p1) (.Constant (.int n) k cp) sp) (it E1) (fun _ : Unit => env) (fun (k : α → Unit → Option Ω) => k (g t) ()) :=
  fun C F H σs es σ k ω Q hK hl h hk q => tE.of X (pe_ix ix_list (pe_var hi hv_nm hd hcd) pe_int fun _ _ => rfl) (by
    obtain ⟨v, fp, e1, p, vs, ds, rfl, h1, h2, h3, _⟩ := h.lookF hl he
    obtain ⟨ds', q1, q2⟩ := hp.is t
    rw [h2] at q1
    cases q1
    obtain ⟨u, hu, ru⟩ := h3.atD q2
    exact ⟨_, e1, p, vs, n, u, rfl, rfl, SqL.of h1, hu, q (g t) () u F H hk (h.pushSh ru)⟩)
/-- row[n] = e -/
theorem lb_setrow {f : (α → P → Option Ω) → Option Ω} {fr : α → P → (J → Option Ω) → Option Ω} {w : Option V} {t : P → τ} {n : Int} {u : τ → α → τ} {p1 cp sp : Pos} {k : Nat} (i : Nat) (hp : PartS E n E1 u) (he : LX X env e (it E1) e' f) (h1 : ∀ p, (e' p)[i]? = some (.st w τ (lsR E) (t p)))
    (hr : ∀ y p, LB X SR envR kr bk ct ((e' p).set i (.st w τ (lsR E) (u (t p) y))) rest envJ (fr y p)) (hi : X.N[i]? = some nm := by rfl) (hv_nm : Vis X.env.scope nm := by first | exact Or.inl rfl | exact Or.inr (Or.inl rfl) | exact Or.inr (Or.inr rfl)) (hd : (nm == ("__debug__" : Str)) = false := by decide) (hcd : (nm == ("__classdict__" : Str)) = false := by decide)
    (ha : ∀ v, assign (.Subscript (.Name nm p1) (.Constant (.int n) k cp) sp) X.env v = (do
      let ov ← holding [v] (eval (.Name nm p1) X.env)
      let iv ← holding [v, ov] (eval (.Constant (.int n) k cp) X.env)
      standAt sp
      holding [v, ov, iv] (setItem ov iv v)
      release [v, ov, iv] []) := by intro _; rfl)
    (hs : swapsWithSole [.Subscript (.Name nm p1) (.Constant (.int n) k cp) sp] e pos.line X.env = pure false := by rfl) (hw : swappedStores [.Subscript (.Name nm p1) (.Constant (.int n) k cp) sp] e X.env = pure none := by rfl) (ha1 : (assignEach [.Subscript (.Name nm p1) (.Constant (.int n) k cp) sp] X.env).map (·.2) = [assign (.Subscript (.Name nm p1) (.Constant (.int n) k cp) sp) X.env] := by rfl) :
    LB X SR envR kr bk ct env (.Assign [.Subscript (.Name nm p1) (.Constant (.int n) k cp) sp] e pos :: rest) envJ (fun kn => f fun y p => fr y p kn) :=
  fun C F H σs es σ kn ω D hK hl h hk qn qb qc qr => tSs.of X (pss_cons (ps_asg (peC X) (pg_sub (pe_var hi hv_nm hd hcd) pe_int set_list ha) hs hw ha1) (pssC X)) (he C F H σs es σ _ ω _ hK hl h hk fun y p v F' H' hk' h' => by
    have hvy : Rep C.K F' v (E1.enc y) := by
      obtain ⟨v', fp, e1, r⟩ := h'.look (i := 0) rfl
      simp at e1; subst e1
      exact r.2
    obtain ⟨l, fp, e1, r1, nd, ow, fin⟩ := (ER.pop h').mut (i := es.length + i) (by rw [at_app _ rfl]; exact h1 p)
    rw [at_app _ hl] at e1
    obtain ⟨p0, vs, ds, rfl, h2, h3, h4, rfl⟩ := r1
    obtain ⟨ds', j, q1, q2, q3⟩ := hp.is (t p) y
    rw [h3] at q1
    cases q1
    have hj : ixN vs.length n = some j := by rw [h4.length]; exact q2
    refine ⟨_, e1, p0, vs, n, j, rfl, rfl, h2, hj, ?_⟩
    have fin' := fin τ (lsR E) (u (t p) y) (upd H' p0 (.lst (vs.set j v))) [p0] (fun a na _ => upd_ne fun z => na (by rw [z]; simp)) (fun a m => ?_) ⟨p0, _, _, rfl, upd_same, q3, h4.set hvy, rfl⟩ (by simp) (fun a m => ?_)
    · rw [List.set_append_right _ _ (Nat.le_add_right _ _), Nat.add_sub_cancel_left] at fin'
      exact hr y p C F' _ σs es σ kn ω D hK hl fin' hk' qn qb qc qr
    · by_cases z : a = p0
      · subst z; rw [upd_same]; exact fun z => by cases z
      · rw [upd_ne z]; exact m
    · simp at m; subst m
      exact ⟨by rw [upd_same]; exact (fun z => by cases z), .inl (by simp)⟩)
variable {np tp : Pos} {f : (τ → P → Option Ω) → Option Ω}
theorem sqT_ty {K : Fg} {H : Hp} {p : Addr} {vs : List V} (h : SqT K H p vs) : TyX K H (.ref p) (.type "tuple") := by
  rcases h with (h | ⟨o, h⟩) | ⟨o, its, n, h1, h2, _⟩
  · exact .base (.tup h)
  · exact .fTuple h
  · exact .kTuple h1 h2
/-- isinstance(a, tuple) of a tuple -/
theorem lx_isT (hE : ∀ x, ∃ ds, E.enc x = .tuple ds) (hm1 : X.mg "isinstance" = none) (hm2 : X.mg "tuple" = none) (ha : LX X env a (it E) e' f) (hg1 : Gl X "isinstance" := by rfl) (hg2 : Gl X "tuple" := by rfl)
    (hs : starEach [a, .Name "tuple" tp] X.env = (false, eval a X.env) :: starEach [.Name "tuple" tp] X.env := by rfl) (hs2 : starEach [.Name "tuple" tp] X.env = (false, eval (.Name "tuple" tp) X.env) :: starEach [] X.env := by rfl) (hpl : (backTo pos (starEach [.Name "tuple" tp] X.env)).any (·.1) = false := by rfl) :
    LX X env (.Call (.Name "isinstance" np) [a, .Name "tuple" tp] [] pos) (it eB) e' (fun k => f fun _ p => k true p) :=
  fun C F H σs es σ k ω Q hK hl h hk q => tE.of X (pe_callB call_isi hg1 hm1 (by rfl) (pa_cons (peC X) (pa_cons (pe_bltn (v := .ty "tuple") (u := .type "tuple") hg2 hm2 (by rfl) rfl) pa_nil hs2) hs) (by decide) (by decide) hs hpl) (ha C F H σs es σ _ ω _ hK hl h hk fun x p v F' H' hk' h' => by
    obtain ⟨v', fp, e1, _, r⟩ := h'.look (i := 0) rfl
    simp at e1; subst e1
    obtain ⟨ds, e⟩ := hE x
    rw [e] at r
    obtain ⟨t, vs, rfl, h1, h2⟩ := r.tup_inv
    exact ⟨_, _, _, _, true, rfl, .ty "tuple", sqT_ty (by rw [← hK]; exact same_sqT h'.sF h1), by unfold PySem.W.kitOne; rw [if_pos (by decide)], q true p (.bl true) F' H' hk' (h'.pop.pushSh (.bl true))⟩)
/-- len of a tuple of parts -/
theorem lx_lenT {n : Nat} (hE : ∀ x, ∃ ds, E.enc x = .tuple ds ∧ ds.length = n) (hm : X.mg "len" = none) (ha : LX X env a (it E) e' f) (hg : Gl X "len" := by rfl) (he : starEach (a :: []) X.env = (false, eval a X.env) :: starEach [] X.env := by rfl) (hpl : (backTo pos (starEach [] X.env)).any (·.1) = false := by rfl) :
    LX X env (.Call (.Name "len" np) [a] [] pos) (it eI) e' (fun k => f fun _ p => k (n : Int) p) :=
  lx_b1t (G := fun _ => True) (E := eI) (g := fun _ : τ => (n : Int)) call_len_seq hm PySem.boot_len (lo_of ha) (fun _ => trivial) (fun K F H fp v x Q hK s r q => by
    obtain ⟨_, r⟩ := r
    obtain ⟨ds, e, hn⟩ := hE x
    rw [e] at r
    obtain ⟨t, vs, rfl, h1, h2⟩ := r.tup_inv
    have := h2.length
    exact ⟨t, vs, rfl, .inr (by rw [← hK]; exact same_sqT s h1), by rw [this, hn]; exact q _ (.int _)⟩) hg (by decide) (by decide) he hpl
end
end Z

set_option Elab.async false
set_option linter.all false
set_option maxRecDepth 100000
namespace Z
open PySem PySem.Spec PyProof.Rows L2

/-! ### pairs in their order; ranges; walks that gather -/
abbrev lpp : Int × Int → Int × Int → Bool := lt2 ltI ltI
theorem lpp_iff {x y : Int × Int} : lpp x y = true ↔ (x.1 < y.1 ∨ (x.1 = y.1 ∧ x.2 < y.2)) := by
  unfold lpp lt2 ltI
  by_cases c : x.1 = y.1
  · rw [if_pos c, decide_eq_true_eq]; omega
  · rw [if_neg c, decide_eq_true_eq]; omega
theorem lpp_no {x y : Int × Int} : lpp x y = false ↔ ¬(x.1 < y.1 ∨ (x.1 = y.1 ∧ x.2 < y.2)) := by rw [← lpp_iff]; simp
theorem minB_pp {l : List (Int × Int)} {m : Int × Int} (hm : m ∈ l) (h : ∀ y ∈ l, lpp y m = false) : minB lpp l = some m := by
  have key : ∀ (l : List (Int × Int)) (a : Int × Int), (l.foldl (fun a y => if lpp y a = true then y else a) a ∈ a :: l) ∧ ∀ y ∈ a :: l, lpp y (l.foldl (fun a y => if lpp y a = true then y else a) a) = false := by
    intro l
    induction l with
    | nil => intro a; refine ⟨by simp, fun y m => ?_⟩; simp at m; subst m; rw [List.foldl_nil, lpp_no]; omega
    | cons b l ih =>
      intro a
      rw [List.foldl_cons]
      by_cases c : lpp b a = true
      · rw [if_pos c]
        obtain ⟨i1, i2⟩ := ih b
        refine ⟨by rcases List.mem_cons.1 i1 with h | h <;> simp [h], fun y m => ?_⟩
        rcases List.mem_cons.1 m with rfl | m
        · have i3 := i2 b (by simp)
          rw [lpp_no] at i3 ⊢
          rw [lpp_iff] at c
          omega
        · exact i2 y m
      · rw [if_neg c]
        obtain ⟨i1, i2⟩ := ih a
        refine ⟨by rcases List.mem_cons.1 i1 with h | h <;> simp [h], fun y m => ?_⟩
        rcases List.mem_cons.1 m with rfl | m
        · exact i2 _ (by simp)
        · rcases List.mem_cons.1 m with rfl | m
          · have i3 := i2 a (by simp)
            have c' : lpp y a = false := by simpa using c
            rw [lpp_no] at i3 c' ⊢
            omega
          · exact i2 y (by simp [m])
  cases l with
  | nil => cases hm
  | cons a l =>
    obtain ⟨i1, i2⟩ := key l a
    show some _ = some m
    have h1 := h _ i1
    have h2 := i2 m hm
    rw [lpp_no] at h1 h2
    exact congrArg some (Prod.ext (by omega) (by omega))
theorem mem_range2 {lo hi x : Int} : x ∈ rangeL lo hi ↔ lo ≤ x ∧ x < hi := by
  unfold rangeL
  simp only [List.mem_map, List.mem_range]
  exact ⟨fun ⟨i, h, e⟩ => by omega, fun h => ⟨(x - lo).toNat, by omega, by omega⟩⟩
theorem rangeL_len {lo hi : Int} : (rangeL lo hi).length = (hi - lo).toNat := by simp [rangeL]
theorem rangeL_cons {lo hi : Int} (h : lo < hi) : ∃ r, rangeL lo hi = lo :: r := by
  unfold rangeL
  obtain ⟨n, hn⟩ : ∃ n, (hi - lo).toNat = n + 1 := ⟨(hi - lo).toNat - 1, by omega⟩
  rw [hn, List.range_succ_eq_map, List.map_cons]
  exact ⟨_, by simp; rfl⟩
theorem rangeL_snoc {lo hi : Int} (h : lo < hi) : ∃ r, rangeL lo hi = r ++ [hi - 1] := by
  unfold rangeL
  obtain ⟨n, hn⟩ : ∃ n, (hi - lo).toNat = n + 1 := ⟨(hi - lo).toNat - 1, by omega⟩
  rw [hn, List.range_succ, List.map_append]
  refine ⟨_, congrArg _ ?_⟩
  simp; omega
theorem rgOk_small {lo hi : Int} (h1 : -1000000 ≤ lo) (h2 : lo ≤ 1000000) (h3 : -1000000 ≤ hi) (h4 : hi ≤ 1000000) : rgOk lo hi = true := decide_eq_true ⟨by omega, by omega, by omega, by omega⟩
theorem atI_last {α : Type} {l : List α} {a : α} : atI (l ++ [a]) (-(1 : Int)) = some a := by
  unfold atI ixN
  rw [if_neg (by decide), if_pos (by simp; omega)]
  show (l ++ [a])[_]? = _
  have : (-(1 : Int) + ((l ++ [a]).length : Int)).toNat = l.length := by simp; omega
  rw [this]; simp
theorem forO_cat {α β Ω : Type} (f : α → List β) (m N : Nat) {b : α → List β → (List β → Option Ω) → Option Ω} {k : List β → Option Ω} : ∀ (xs : List α) (s : List β), s.length + xs.length * m ≤ N →
    (∀ x ∈ xs, (f x).length ≤ m ∧ ∀ s kc, s.length + m ≤ N → b x s kc = kc (s ++ f x)) → forO xs s b k = k (s ++ xs.flatMap f)
  | [], s, _, _ => by simp [forO]
  | x :: xs, s, hl, h => by
    obtain ⟨h1, h2⟩ := h x (List.mem_cons_self ..)
    rw [List.length_cons, Nat.add_mul, Nat.one_mul] at hl
    refine (h2 s _ (by omega)).trans ?_
    rw [forO_cat f m N xs (s ++ f x) (by rw [List.length_append]; omega) fun y k => h y (List.mem_cons_of_mem _ k), List.flatMap_cons, List.append_assoc]
/-- the cells of a rectangle, column by column -/
def grid (x0 x1 y0 y1 : Int) : List (Int × Int) := (rangeL x0 x1).flatMap fun c => (rangeL y0 y1).map fun r => (c, r)
theorem grid_first {x0 x1 y0 y1 : Int} (hx : x0 < x1) (hy : y0 < y1) : atI (grid x0 x1 y0 y1) 0 = some (x0, y0) := by
  obtain ⟨r, e⟩ := rangeL_cons hx
  obtain ⟨q, e2⟩ := rangeL_cons hy
  unfold grid
  rw [e, e2]
  simp only [List.flatMap_cons, List.map_cons, List.cons_append]
  exact Z.atI_nat (xs := (x0, y0) :: _) (i := 0) (by simp)
theorem grid_last {x0 x1 y0 y1 : Int} (hx : x0 < x1) (hy : y0 < y1) : atI (grid x0 x1 y0 y1) (-(1 : Int)) = some (x1 - 1, y1 - 1) := by
  obtain ⟨r, e⟩ := rangeL_snoc hx
  obtain ⟨q, e2⟩ := rangeL_snoc hy
  unfold grid
  rw [e, e2]
  simp only [List.flatMap_append, List.map_append, List.flatMap_cons, List.flatMap_nil, List.map_cons, List.map_nil, List.append_nil, ← List.append_assoc]
  exact atI_last
end Z

set_option Elab.async false
set_option linter.all false
set_option maxRecDepth 100000
namespace Z
open PySem PySem.Spec PyProof.Rows L2

/-! ### a def that is called where no repr is under way -/
/-- the promise of a def, where no repr is under way -/
structure FnG (P : Program) (w : World) (K : Fg) (mg : Str → Option Value) (base : Heap) (k : Nat) (f : Addr) (fd : FuncData) (ps : List Str) (sp : Sp) : Prop where
  go : ∀ (A : Around) (ou : List PySem.Env) (s : Shared) (H : Hp) (ar : Args) (us : List Value) (vs : List V) (Q : VK) (E : XK), A.guards = some [] → Room k A → Env0 P w K mg base A ou s H → BindsTo s fd ar (ps.zip us) → Vals vs us → sp vs H Q E → codeAny (model P w) A (.call (.ref f) ar) (CR CX0 ou P w H s Q E) s
section
variable {P : Program} {w : World} {K : Fg} {mg : Str → Option Value} {base : Heap}
theorem FnG.weak {k : Nat} {f : Addr} {fd : FuncData} {ps : List Str} {sp sp' : Sp} (G : FnG P w K mg base k f fd ps sp) (h : ∀ vs H Q E, sp' vs H Q E → sp vs H Q E) : FnG P w K mg base k f fd ps sp' :=
  ⟨fun A ou s H ar us vs Q E g hr e hb hv hs => G.go A ou s H ar us vs Q E g hr e hb hv (h _ _ _ _ hs)⟩
theorem fnG0 {x qual : Str} {st : Stmt} {f : Addr} {fd : FuncData} {N ps : List Str} {k : Nat} {sp : Sp} (F : Fun K x qual st f fd) (S : FnScope N ps (defScope st)) (len : ∀ vs H Q E, sp vs H Q E → vs.length = ps.length)
    (hb : ∀ (cdv : Value) (A : Around) (ou : List PySem.Env) (s : Shared) (H : Hp) (vs : List V) (Q : VK) (E : XK), A.guards = some [] → Room k (A.deeper (envOfC qual (defScope st) s.heap.objs.size f cdv)) → sp vs H Q E →
      ∃ t, PSs (cxOf CX0 P w K mg base N qual (defScope st) f cdv A ou s H E).nox (defBody st) t ∧ t { nx := fun _ H' => Q .non H', rt := Q } (L2.start N vs) H) : FnG P w K mg base (k + 1) f fd ps sp := by
  obtain ⟨oc, od, kV, doc, pm, an, cdv, ct, osl, rfl, lk, hcd⟩ := F.ex
  constructor
  intro A ou s H ar us vs Q E hg hr e0 hbd hv hsp
  have hKs : K.In s.heap := e0.mod.kin.keeps fun b o e => (e0.bs b o e).1
  have hnl : s.heap.NoLimit := e0.mod.nolimit.keeps fun b o e => (e0.bs b o e).1
  have kinds : ∀ y ∈ ps.zip us, (defScope st).names.lookup y.1 = some .local ∨ ((defScope st).names.lookup y.1 = some .cell ∧ ((cellsFrom (s.heap.objs.size + 1) (defScope st).names []).lookup y.1).isSome = true) := by
    rintro ⟨nme, va⟩ hy
    cases S.par nme (List.of_mem_zip hy).1 with
    | inl z => exact Or.inl z
    | inr z => exact Or.inr ⟨z, PySem.W.cellsFrom_some _ _ _ (Or.inl z)⟩
  refine codeAny_call_function hr.depth (hKs _ _ lk) rfl S.co S.gen rfl (PySem.W.codeRec_of hKs hcd) (hbd _ _ _ _ ?go)
  refine wpAny_newFunctionEnv_cells S.kind kinds fun en1 hen s1 x1 => ?_
  subst hen
  refine ⟨hnl.keeps x1.toInCall.keep, codeAny_func ?_⟩
  obtain ⟨t, ht, hq⟩ := hb cdv A ou s H vs Q E hg (hr.deeper _) hsp
  have inv : Inv (cxOf CX0 P w K mg base N qual (defScope st) f cdv A ou s H E) [] (L2.start N vs) H s1 := inv_start S hr.hd e0 (len _ _ _ _ hsp) hv x1
  have ht2 := ht.nox
  refine wpAny_mono (ht2.run [] s1 (L2.start N vs) H _ inv hq) (fun fl s2 hs2 => ?_) fun e s2 hs2 => hs2
  cases fl with
  | ret u =>
    obtain ⟨v, σ2, H2, J, rv, q⟩ := hs2
    exact ⟨v, H2, J.os, J.bare, J.base, J.hok, rv, q⟩
  | next =>
    obtain ⟨σ2, H2, J, q⟩ := hs2
    exact ⟨V.non, H2, J.os, J.bare, J.base, J.hok, rfl, q⟩
  | brk => exact False.elim hs2.choose_spec.choose_spec.2
  | cont => exact False.elim hs2.choose_spec.choose_spec.2
/-- .. by its body's derivation -/
theorem fnPG {x qual : Str} {st : Stmt} {f : Addr} {fd : FuncData} {N ps : List Str} {k : Nat} {A R : Type} {sl : A → Env} {SR : Stor R} {m : A → Option R} (F : Fun K x qual st f fd) (S : FnScope N ps (defScope st)) (n : Nat) (hn : N.length - ps.length = n) (hl : ∀ a, (sl a).length = ps.length)
    (hb : ∀ (cdv : Value) (A' : Around) (ou : List PySem.Env) (s : Shared) (H : Hp) (E : XK), (A'.deeper (envOfC qual (defScope st) s.heap.objs.size f cdv)).guards = some [] → Room k (A'.deeper (envOfC qual (defScope st) s.heap.objs.size f cdv)) → ∀ a : A,
      LB (cxOf CX0 P w K mg base N qual (defScope st) f cdv A' ou s H E).nox SR (fun _ : Unit => List.replicate (ps.length + n) .un) (fun (r : R) (_ : Unit) => some r) (noLp R) (noLp R) (sl a ++ List.replicate n .un) (defBody st) (fun z : Empty => z.elim) (fun _ => m a)) :
    FnG P w K mg base (k + 1) f fd ps (spP K sl SR m) := by
  have hlen : ∀ vs H Q E, spP K sl SR m vs H Q E → vs.length = ps.length := fun vs H Q E h => by
    obtain ⟨B, F0, a, r, _, h2, _⟩ := h
    rw [List.length_map] at h2; rw [h2, hl a]
  refine fnG0 F S hlen fun cdv A' ou s H vs Q E hg hr h => ?_
  have hlv := hlen vs H Q E h
  obtain ⟨B, F0, a, r, hm, _, her, q⟩ := h
  refine ⟨_, pssC _, ?_⟩
  have hst : L2.start N vs = vs.map some ++ List.replicate n none := by unfold L2.start; rw [hlv, hn]
  rw [hst]
  refine hb cdv A' ou s H E hg hr a ⟨K, B, F0, H, []⟩ F0 H [] [] _ (fun z => z.elim) r { nx := fun _ H' => Q .non H', rt := Q } rfl rfl (her.padR n) hm (fun z => z.elim) (fun z => z.elim) (fun z => z.elim) ?_
  intro a' i v F' H' σ' e h'
  cases e
  exact q F' H' v h'.head
/-- the call of the law's def from the claim's caller: nothing but the script is held -/
theorem lawG1 {mb : Str → Option Value} {k : Nat} {fa a : Addr} {fd : FuncData} {x : Str} {sp : Sp} {s1 : Shared} {vs : List Value} {H : Hp} (KX : K.In s1.heap) (hns : s1.heap.Ns mainGlobals mg) (hb : s1.heap.Ns builtinsNs mb) (hbb : ∀ y : Str, y ≠ "__name__" → mb y = bootBuiltins y) (hlim : s1.heap.NoLimit) (hg : s1.gens = #[])
    (ha : s1.heap.get? a = some { cls := .type "list", data := .seq vs.toArray }) (hr : Room k callerA) (F : ∀ bs : Heap, K.In bs → bs.Ns mainGlobals mg → FnG P w K mg bs k fa fd [x] sp) (hbind : ∀ (s : Shared) (u : Value), BindsTo s fd ⟨[u], []⟩ [(x, u)])
    (hO : Only H) (hsp : sp [.ref a] H (fun v _ => v = .bl true) fun _ _ _ => False) (hok : HOk P w H s1.heap) (hA : ∀ b, H b ≠ none → b = a) (hK : H a ≠ none → K.lookup a = none) :
    codeAny (model P w) callerA (.call (.ref fa) ⟨[.ref a], []⟩) (fun r s' => r = .ok (.ret (.bool true)) ∧ OldK s1.heap s'.heap ∧ s'.os = s1.os ∧ AllBare s'.gens) s1 := by
  have up : ∀ {c : Addr} {o : Obj}, s1.heap.get? c = some o → H c = none → (hidT s1.heap H).get? c = some o := fun e n => hidT_get e n
  have free : ∀ {c : Addr} {o : Obj} {es : Array DictEntry} {ep : Nat}, s1.heap.get? c = some o → o.data = .dict es ep → H c = none := by
    intro c o es ep e d
    rcases q : H c with _ | u
    · rfl
    · have hc : c = a := hA c (by rw [q]; exact fun z => by cases z)
      rw [hc, ha] at e
      cases e
      cases (show Data.seq vs.toArray _ = Data.dict es ep from d)
  have nsUp : ∀ {c : Addr} {m : Str → Option Value}, s1.heap.Ns c m → (hidT s1.heap H).Ns c m := fun ⟨o, es, ep, e, d, r⟩ => ⟨o, es, ep, up e (free e d), d, r⟩
  have inUp : K.In (hidT s1.heap H) := by
    intro c o e
    refine up (KX c o e) ?_
    rcases q : H c with _ | u
    · rfl
    · have hc : c = a := hA c (by rw [q]; exact fun z => by cases z)
      subst hc
      have := hK (by rw [q]; exact fun z => by cases z)
      rw [this] at e; cases e
  have md : Mod K mg (hidT s1.heap H) := ⟨inUp, nsUp hns, ⟨mb, nsUp hb, hbb⟩, by obtain ⟨mc, h1, h2⟩ := hlim; exact ⟨mc, nsUp h1, h2⟩⟩
  have ev : Env0 P w K mg (hidT s1.heap H) callerA [] s1 H := by
    refine ⟨rfl, md, fun c o e => of_hidT e, Nat.le_of_eq (hidT_size _ _), trivial, fun c hc => ?_, hok, .of_eq hg⟩
    cases (show c ∈ ([] : List Addr) from hc)
  have run := (F _ inUp (nsUp hns)).go callerA [] s1 H ⟨[.ref a], []⟩ [.ref a] [.ref a] _ _ rfl hr ev (hbind s1 (.ref a)) (.cons rfl .nil) hsp
  refine codeAny_mono run fun r s' h => ?_
  match r, h with
  | .error e, h => exact False.elim h
  | .ok .next, h => exact False.elim h
  | .ok .brk, h => exact False.elim h
  | .ok .cont, h => exact False.elim h
  | .ok (.ret u), h =>
    obtain ⟨v, H2, os, bare, un, hok2, rv, q⟩ := h
    have hv : v = .bl true := q
    rw [hv] at rv
    have hu : u = Value.bool true := rv
    refine ⟨by rw [hu], OldK.of_keep fun c o e => ?_, os, bare⟩
    rcases q2 : H c with _ | g
    · exact un.keep c o e q2 (fun z => by cases (show c ∈ ([] : List Addr) from z)) (by simp)
    · rcases hO c with z | ⟨ob, xs, z⟩
      · rw [q2] at z; cases z
      · have e1 := (hok c _ z).1
        have e2 := (hok2 c _ (un.frzs c ob _ z)).1
        rw [e] at e1; cases e1
        exact e2
theorem lawG {mb : Str → Option Value} {k : Nat} {fa a : Addr} {fd : FuncData} {x : Str} {sp : Sp} {s1 : Shared} {vs : List Value} {ns : List Int} (KX : K.In s1.heap) (hns : s1.heap.Ns mainGlobals mg) (hb : s1.heap.Ns builtinsNs mb) (hbb : ∀ y : Str, y ≠ "__name__" → mb y = bootBuiltins y) (hlim : s1.heap.NoLimit) (hg : s1.gens = #[])
    (ha : s1.heap.get? a = some { cls := .type "list", data := .seq vs.toArray }) (hi : IntsAre vs ns) (hl : ns.length ≤ sizeLine) (hr : Room k callerA) (F : ∀ bs : Heap, K.In bs → bs.Ns mainGlobals mg → FnG P w K mg bs k fa fd [x] sp) (hbind : ∀ (s : Shared) (u : Value), BindsTo s fd ⟨[u], []⟩ [(x, u)])
    (hsp : ∀ H : Hp, Only H → SqL K H a (ns.map V.int) → sp [.ref a] H (fun v _ => v = .bl true) fun _ _ _ => False) :
    codeAny (model P w) callerA (.call (.ref fa) ⟨[.ref a], []⟩) (fun r s' => r = .ok (.ret (.bool true)) ∧ OldK s1.heap s'.heap ∧ s'.os = s1.os ∧ AllBare s'.gens) s1 := by
  have rv := vals_ints hi
  have hlen := hi.length
  rcases hk : K.lookup a with _ | o
  · have hO : Only (fun c => if c = a then some (.frz { cls := .type "list", data := .seq vs.toArray } (.lst (ns.map V.int))) else none) := fun c => by
      by_cases z : c = a
      · exact .inr ⟨_, _, if_pos z⟩
      · exact .inl (if_neg z)
    refine lawG1 KX hns hb hbb hlim hg ha hr F hbind hO (hsp _ hO (.inl (.inr ⟨_, if_pos rfl⟩))) (fun c u z => ?_) (fun c z => ?_) (fun _ => hk)
    · by_cases q : c = a
      · rw [if_pos q] at z
        cases z
        rw [q]
        exact ⟨ha, by rw [List.length_map]; exact hl, vs, _, rv, ha⟩
      · rw [if_neg q] at z; cases z
    · by_cases q : c = a
      · exact q
      · exact absurd (if_neg q) z
  · have e := KX a o hk
    rw [ha] at e
    cases e
    refine lawG1 (H := fun _ => none) KX hns hb hbb hlim hg ha hr F hbind (fun _ => .inl rfl) (hsp _ (fun _ => .inl rfl) (.inr ⟨_, vs.toArray, _, hk, rfl, rfl, rfl, by rw [List.size_toArray, hlen]; exact hl, by simpa using rv⟩)) (fun c u z => by cases (show (none : Option HO) = some u from z)) (fun c z => absurd rfl z) (fun z => absurd rfl z)
end
theorem walkG {l : PySem.W.OpenLaw} {n k : Nat} {q : Program} {loose : List Str} {XP : (Str → Option Value) → Heap → Prop} {YP : World → Heap → Prop} {d : DefRec} {K : Params → Fg} {sp : World → Sp} {x : Str} (hn : l.most = some n) (hn2 : n ≤ sizeLine) (hdf : d.params.defaults = []) (hr : Room k callerA) (hY : ∀ (w : World) (h : Heap), YP w h → (K w.params).In h)
    (F : ∀ (w : World) (mg : Str → Option Value) (fa : Addr) (h : Heap), (K w.params).In h → h.Ns mainGlobals mg → mg d.name = some (.ref fa) → ∃ fd : FuncData, (∀ (s : Shared) (u : Value), BindsTo s fd ⟨[u], []⟩ [(x, u)]) ∧ ∀ bs : Heap, (K w.params).In bs → bs.Ns mainGlobals mg → FnG l.prog w (K w.params) mg bs k fa fd [x] (sp w))
    (hsp : ∀ (w : World) (H : Hp) (a : Addr) (ns : List Int), ns.length ≤ n → Only H → SqL (K w.params) H a (ns.map V.int) → sp w [.ref a] H (fun v _ => v = .bl true) fun _ _ _ => False) :
    PySem.W.WalkO q loose XP YP l.row.toRowW d [] (fun f vs => PySem.call f vs) := by
  refine Att.attach_call hn hdf fun w s0 s1 mg mb fa o pm cd doc a vs ns G Y ho hd hcd hmg hobj hints hlen hg => ?_
  obtain ⟨fd, hbd, hF⟩ := F w mg fa _ (hY w _ Y) G.T.g hmg
  exact lawG (hY w _ Y) G.T.g G.T.b G.T.builtins G.T.nolimit hg hobj hints (Nat.le_trans hlen hn2) hr hF hbd fun H hO hS => hsp w H a ns hlen hO hS
end Z

set_option Elab.async false
set_option linter.all false
set_option maxRecDepth 100000
namespace Z
open PySem PySem.Spec PyProof.Rows L2

/-! ### repr of data -/
def showOk (d : PyData) : Bool := d.canLay0 && d.showable && decide (d.depth ≤ 60) && decide (d.shown.length ≤ sizeLine)
/-- the text of a datum, where it can be told -/
def reprO (d : PyData) : Option Str := if showOk d = true then some d.shown else none
def rRepr (K : Fg) : List V → Hp → VK → Prop := fun vs H Q => ∃ (v : V) (d : PyData), vs = [v] ∧ Dp K H v d ∧ showOk d = true ∧ Q (.str d.shown) H
theorem cr_repr {X : Cx} (hg : X.A.guards = some []) (hu : X.A.units + 64 < cLine) : CallR X (.builtin "repr") (rRepr X.K) := by
  intro pins s σ H vs us Q I r h
  obtain ⟨v, d, rfl, hd, hs, q⟩ := h
  simp only [showOk, Bool.and_eq_true, decide_eq_true_eq] at hs
  obtain ⟨⟨⟨s1, s2⟩, s3⟩, s4⟩ := hs
  obtain ⟨u, rfl, rv⟩ := vals1 r
  obtain ⟨as, hr⟩ := Dp.reads I d v u hd rv
  have nodict : d.hasDict = true → sysModules ∉ as := PyData.noDict_hsm (PyData.hasDict_of_canLay d s1)
  cases hd with
  | non =>
    have e : u = .none := rv
    subst e
    exact PySem.P.repr_of_none ⟨.str _, H, I.tok _, ⟨_, by rw [PyData.shown]⟩, q⟩
  | bl b =>
    have e : u = .bool b := rv
    subst e
    exact PySem.P.repr_of_bool ⟨.str _, H, I.tok _, ⟨_, by rw [PyData.shown]⟩, q⟩
  | int i =>
    obtain ⟨t, rfl⟩ := rv
    exact PySem.P.repr_of_int (by simpa [PyData.showable] using s2) ⟨.str _, H, I.tok _, ⟨_, by rw [PyData.shown]⟩, q⟩
  | str x =>
    obtain ⟨t, rfl⟩ := rv
    exact PySem.P.repr_of_str ⟨.str _, H, I.tok _, ⟨_, by rw [PyData.shown]⟩, q⟩ (by rw [PyData.shown] at s4; exact s4)
  | lst h1 h2 =>
    have e := (show u = Value.ref _ from rv)
    subst e
    exact PySem.repr_of_reads' hr s2 nodict hg (by omega) (fun b o e => e) (fun h' u tk hk => ⟨.str _, H, I.kept hk, ⟨u, rfl⟩, q⟩) s4
  | tup h1 h2 =>
    have e := (show u = Value.ref _ from rv)
    subst e
    exact PySem.repr_of_reads' hr s2 nodict hg (by omega) (fun b o e => e) (fun h' u tk hk => ⟨.str _, H, I.kept hk, ⟨u, rfl⟩, q⟩) s4
section
variable {X : Cx} {Ω : Type} {env : Env} {pos np : Pos} {a : Expr} {P τ : Type} {S : Stor τ} {E : Enc τ} {e' : P → Env} {G : Env → Prop} {f : (τ → P → Option Ω) → Option Ω}
theorem lx_repr (hgd : X.A.guards = some []) (hu : X.A.units + 64 < cLine) (dv : Dv S E) (hm : X.mg "repr" = none) (ha : LO X G env a S e' f) (hG : ∀ p, G (e' p)) (hg : Gl X "repr" := by rfl) (he : starEach (a :: []) X.env = (false, eval a X.env) :: starEach [] X.env := by rfl) (hpl : (backTo pos (starEach [] X.env)).any (·.1) = false := by rfl) :
    LX X env (.Call (.Name "repr" np) [a] [] pos) (it eS) e' (fun k => f fun x p => (reprO (E.enc x)).bind fun y => k y p) :=
  lx_b1 (E := eS) (g := fun x : τ => reprO (E.enc x)) (cr_repr hgd hu) hm PyProof.Rows.boot_repr ha hG (fun K F H fp v x y Q hK s hy r q => by
    unfold reprO at hy
    by_cases c : showOk (E.enc x) = true
    · rw [if_pos c] at hy
      cases hy
      have hl : (E.enc x).canLay0 = true := by
        simp only [showOk, Bool.and_eq_true, decide_eq_true_eq] at c
        exact c.1.1.1
      exact ⟨v, E.enc x, rfl, by rw [← hK]; exact dv.dp s hl r, c, q _ (.str _)⟩
    · rw [if_neg c] at hy; cases hy) hg (by decide) (by decide) he hpl
end
section
variable {X : Cx} {Ω : Type} {env : Env} {pos : Pos} {a b : Expr} {P1 P2 : Type} {e1 : P1 → Env} {e2 : P1 → P2 → Env} {fa : (Str → P1 → Option Ω) → Option Ω} {fb : P1 → (Str → P2 → Option Ω) → Option Ω}
theorem lc_txt {op : CmpOp} {r : R2} {g : Str → Str → Bool} (ho : OpR X (compareOp op) r) (hr : ∀ i j H (Q : VK), Q (.bl (g i j)) H → r (.str i) (.str j) H Q) (ha : LX X env a (it eS) e1 fa) (hb : ∀ p1, LX X (e1 p1) b (it eS) (e2 p1) (fb p1)) :
    LC X env op a b (fun p : P1 × P2 => e2 p.1 p.2) (fun k => fa fun x p1 => fb p1 fun y p2 => k (g x y) (p1, p2)) :=
  lc_cmp ho (lo_of ha) (fun p1 => lo_of (hb p1)) (fun _ _ => trivial) (fun _ _ => trivial) fun K F H fp fq v u x y Q _ _ r1 r2 q => by
    obtain ⟨_, r1⟩ := r1
    obtain ⟨_, r2⟩ := r2
    cases r1; cases r2
    exact hr x y H Q q
theorem lc_eqS (ha : LX X env a (it eS) e1 fa) (hb : ∀ p1, LX X (e1 p1) b (it eS) (e2 p1) (fb p1)) : LC X env .Eq a b (fun p : P1 × P2 => e2 p.1 p.2) (fun k => fa fun x p1 => fb p1 fun y p2 => k (decide (x = y)) (p1, p2)) :=
  lc_txt op_eq (fun i j _ _ q => ⟨rfl, by simpa using q⟩) ha hb
theorem lc_neS (ha : LX X env a (it eS) e1 fa) (hb : ∀ p1, LX X (e1 p1) b (it eS) (e2 p1) (fb p1)) : LC X env .NotEq a b (fun p : P1 × P2 => e2 p.1 p.2) (fun k => fa fun x p1 => fb p1 fun y p2 => k (!decide (x = y)) (p1, p2)) :=
  lc_txt op_ne (fun i j _ _ q => ⟨rfl, by simpa using q⟩) ha hb
end
/-! ### in -/
def inB {τ : Type} [DecidableEq τ] (x : τ) (ys : List τ) : Bool := ys.any fun z => decide (z = x)
theorem inB_iff {τ : Type} [DecidableEq τ] {x : τ} {ys : List τ} : inB x ys = true ↔ x ∈ ys := by
  unfold inB
  rw [List.any_eq_true]
  exact ⟨fun ⟨z, hz, e⟩ => by rw [← of_decide_eq_true e]; exact hz, fun h => ⟨x, h, decide_eq_true rfl⟩⟩
section
variable {X : Cx} {Ω : Type} {env : Env} {a b : Expr} {P1 P2 τ1 : Type} {S1 : Stor τ1} {E1 : Enc τ1} {e1 : P1 → Env} {e2 : P1 → P2 → Env} {G1 : Env → Prop} {G2 : P1 → Env → Prop} {fa : (τ1 → P1 → Option Ω) → Option Ω}
theorem any_in [DecidableEq τ1] (ev : Ev E1) (x : τ1) (ys : List τ1) : ((ys.map E1.enc).any fun z => PyData.eqv z (E1.enc x)) = inB x ys := by
  rw [Bool.eq_iff_iff, inB_iff, List.any_eq_true]
  constructor
  · rintro ⟨z, hz, e⟩
    obtain ⟨y, hy, rfl⟩ := List.mem_map.1 hz
    rw [ev.eq, decide_eq_true_eq] at e
    rw [← e]; exact hy
  · intro h
    exact ⟨_, List.mem_map.2 ⟨x, h, rfl⟩, by rw [ev.eq]; exact decide_eq_true rfl⟩
theorem lc_inT [DecidableEq τ1] {S2 : Stor (List τ1)} {fb : P1 → (List τ1 → P2 → Option Ω) → Option Ω} {n : Nat} (hu : X.A.units + 65 < cLine) (d1 : Dv S1 E1) (d2 : Dv S2 (eL E1)) (t : Dt E1 n) (ev : Ev E1) (ha : LO X G1 env a S1 e1 fa) (hb : ∀ p1, LO X (G2 p1) (e1 p1) b S2 (e2 p1) (fb p1)) (g1 : ∀ p1 p2, G1 (e2 p1 p2)) (g2 : ∀ p1 p2, G2 p1 (e2 p1 p2)) (hn : n + 1 ≤ 64 := by decide) :
    LC X env .In a b (fun p : P1 × P2 => e2 p.1 p.2) (fun k => fa fun x p1 => fb p1 fun y p2 => k (inB x y) (p1, p2)) :=
  lc_cmp (op_inD hu) ha hb g1 g2 fun K F H fp fq v u x y Q hK s r1 r2 q => by
    subst hK
    exact ⟨_, _, d1.dp s (t.lay x) r1, d2.dp s ((dtL t).lay y) r2, shaped_of (t.lay x) (Nat.le_trans (t.dep x) (by omega)), shaped_of ((dtL t).lay y) (Nat.le_trans ((dtL t).dep y) hn), by rw [any_in ev]; exact q⟩
theorem lc_notInT [DecidableEq τ1] {S2 : Stor (List τ1)} {fb : P1 → (List τ1 → P2 → Option Ω) → Option Ω} {n : Nat} (hu : X.A.units + 65 < cLine) (d1 : Dv S1 E1) (d2 : Dv S2 (eL E1)) (t : Dt E1 n) (ev : Ev E1) (ha : LO X G1 env a S1 e1 fa) (hb : ∀ p1, LO X (G2 p1) (e1 p1) b S2 (e2 p1) (fb p1)) (g1 : ∀ p1 p2, G1 (e2 p1 p2)) (g2 : ∀ p1 p2, G2 p1 (e2 p1 p2)) (hn : n + 1 ≤ 64 := by decide) :
    LC X env .NotIn a b (fun p : P1 × P2 => e2 p.1 p.2) (fun k => fa fun x p1 => fb p1 fun y p2 => k (!inB x y) (p1, p2)) :=
  lc_cmp (op_notInD hu) ha hb g1 g2 fun K F H fp fq v u x y Q hK s r1 r2 q => by
    subst hK
    exact ⟨_, _, d1.dp s (t.lay x) r1, d2.dp s ((dtL t).lay y) r2, shaped_of (t.lay x) (Nat.le_trans (t.dep x) (by omega)), shaped_of ((dtL t).lay y) (Nat.le_trans ((dtL t).dep y) hn), by rw [any_in ev]; exact q⟩
end
end Z

set_option Elab.async false
set_option linter.all false
set_option maxRecDepth 100000
namespace Z
open PySem PySem.Spec PyProof.Rows L2

/-! ### spans (y, first, last) in plain words -/
abbrev Sp3 := Int × Int × Int
/-- x, y lies in a span -/
def InS (R : List Sp3) (x y : Int) : Prop := ∃ s ∈ R, s.1 = y ∧ s.2.1 ≤ x ∧ x ≤ s.2.2
/-- in order, with gaps -/
def Can (R : List Sp3) : Prop := (∀ s ∈ R, s.2.1 ≤ s.2.2) ∧ R.Pairwise fun s t => s.1 < t.1 ∨ (s.1 = t.1 ∧ s.2.2 + 1 < t.2.1)
theorem InS.nil {x y : Int} : ¬ InS [] x y := fun ⟨_, m, _⟩ => nomatch m
theorem InS.cons {s : Sp3} {R : List Sp3} {x y : Int} : InS (s :: R) x y ↔ (s.1 = y ∧ s.2.1 ≤ x ∧ x ≤ s.2.2) ∨ InS R x y := by
  constructor
  · rintro ⟨t, m, h⟩
    rcases List.mem_cons.1 m with rfl | m
    · exact .inl h
    · exact .inr ⟨t, m, h⟩
  · rintro (h | ⟨t, m, h⟩)
    · exact ⟨s, List.mem_cons_self .., h⟩
    · exact ⟨t, List.mem_cons_of_mem _ m, h⟩
theorem InS.app {R S : List Sp3} {x y : Int} : InS (R ++ S) x y ↔ InS R x y ∨ InS S x y := by
  constructor
  · rintro ⟨t, m, h⟩
    rcases List.mem_append.1 m with m | m
    · exact .inl ⟨t, m, h⟩
    · exact .inr ⟨t, m, h⟩
  · rintro (⟨t, m, h⟩ | ⟨t, m, h⟩)
    · exact ⟨t, List.mem_append_left _ m, h⟩
    · exact ⟨t, List.mem_append_right _ m, h⟩
theorem Can.tail {s : Sp3} {R : List Sp3} (h : Can (s :: R)) : Can R := ⟨fun t m => h.1 t (List.mem_cons_of_mem _ m), (List.pairwise_cons.1 h.2).2⟩
theorem Can.out {s : Sp3} {R : List Sp3} {x : Int} (h : Can (s :: R)) : InS R x s.1 → s.2.2 + 1 < x := by
  rintro ⟨t, m, e, a, b⟩
  rcases (List.pairwise_cons.1 h.2).1 t m with q | ⟨_, q⟩
  · omega
  · omega
theorem Can.head {s : Sp3} {R : List Sp3} {x y : Int} (h : Can (s :: R)) : InS (s :: R) x y → s.1 < y ∨ (s.1 = y ∧ s.2.1 ≤ x) := by
  rintro ⟨t, m, e, a, b⟩
  rcases List.mem_cons.1 m with rfl | m
  · exact .inr ⟨e, a⟩
  · have v := h.1 s (List.mem_cons_self ..)
    rcases (List.pairwise_cons.1 h.2).1 t m with q | ⟨q1, q⟩
    · exact .inl (by omega)
    · exact .inr ⟨by omega, by omega⟩
/-- one normal form for one set of cells -/
theorem Can.uniq : ∀ {R S : List Sp3}, Can R → Can S → (∀ x y, InS R x y ↔ InS S x y) → R = S
  | [], [], _, _, _ => rfl
  | [], t :: S, _, hS, h => absurd ((h t.2.1 t.1).2 ⟨t, List.mem_cons_self .., rfl, Int.le_refl _, hS.1 t (List.mem_cons_self ..)⟩) InS.nil
  | s :: R, [], hR, _, h => absurd ((h s.2.1 s.1).1 ⟨s, List.mem_cons_self .., rfl, Int.le_refl _, hR.1 s (List.mem_cons_self ..)⟩) InS.nil
  | s :: R, t :: S, hR, hS, h => by
    have vs := hR.1 s (List.mem_cons_self ..)
    have vt := hS.1 t (List.mem_cons_self ..)
    have a1 := hS.head ((h s.2.1 s.1).1 ⟨s, List.mem_cons_self .., rfl, Int.le_refl _, vs⟩)
    have a2 := hR.head ((h t.2.1 t.1).2 ⟨t, List.mem_cons_self .., rfl, Int.le_refl _, vt⟩)
    have e1 : s.1 = t.1 := by omega
    have e2 : s.2.1 = t.2.1 := by omega
    have e3 : s.2.2 = t.2.2 := by
      rcases Int.lt_trichotomy s.2.2 t.2.2 with q | q | q
      · have := (h (s.2.2 + 1) s.1).2 ⟨t, List.mem_cons_self .., e1.symm, by omega, by omega⟩
        rcases InS.cons.1 this with z | z
        · omega
        · have := hR.out z; omega
      · exact q
      · have := (h (t.2.2 + 1) t.1).1 ⟨s, List.mem_cons_self .., e1, by omega, by omega⟩
        rcases InS.cons.1 this with z | z
        · omega
        · have := hS.out z; omega
    have est : s = t := Prod.ext e1 (Prod.ext e2 e3)
    subst est
    rw [Can.uniq hR.tail hS.tail fun x y => ?_]
    have hh := h x y
    rw [InS.cons, InS.cons] at hh
    constructor
    · intro z
      rcases hh.1 (.inr z) with q | q
      · have := hR.out (x := x) (by rw [q.1]; exact z); omega
      · exact q
    · intro z
      rcases hh.2 (.inr z) with q | q
      · have := hS.out (x := x) (by rw [q.1]; exact z); omega
      · exact q
/-- one span more, behind all others in order of (y, first) -/
def stepJ (R : List Sp3) (s : Sp3) : List Sp3 := match R.getLast? with
  | some l => if l.1 = s.1 ∧ s.2.1 ≤ l.2.2 + 1 then R.dropLast ++ [(s.1, l.2.1, max l.2.2 s.2.2)] else R ++ [(s.1, s.2.1, s.2.2)]
  | none => R ++ [(s.1, s.2.1, s.2.2)]
/-- all of R begins at or ahead of (y, x) -/
def Ahead (R : List Sp3) (y x : Int) : Prop := ∀ t ∈ R, t.1 < y ∨ (t.1 = y ∧ t.2.1 ≤ x)
theorem stepJ_ok {R : List Sp3} {s : Sp3} (h : Can R) (v : s.2.1 ≤ s.2.2) (ha : Ahead R s.1 s.2.1) :
    Can (stepJ R s) ∧ (∀ x y, InS (stepJ R s) x y ↔ InS R x y ∨ (s.1 = y ∧ s.2.1 ≤ x ∧ x ≤ s.2.2)) ∧ Ahead (stepJ R s) s.1 s.2.1 ∧ (stepJ R s).length ≤ R.length + 1 := by
  have fresh : (∀ l, R.getLast? = some l → ¬ (l.1 = s.1 ∧ s.2.1 ≤ l.2.2 + 1)) → Can (R ++ [s]) ∧ (∀ x y, InS (R ++ [s]) x y ↔ InS R x y ∨ (s.1 = y ∧ s.2.1 ≤ x ∧ x ≤ s.2.2)) ∧ Ahead (R ++ [s]) s.1 s.2.1 ∧ (R ++ [s]).length ≤ R.length + 1 := fun hl => by
    refine ⟨⟨fun t m => ?_, List.pairwise_append.2 ⟨h.2, List.pairwise_singleton .., fun t m u mu => ?_⟩⟩, fun x y => ?_, fun t m => ?_, by simp⟩
    · rcases List.mem_append.1 m with m | m
      · exact h.1 t m
      · rw [List.mem_singleton] at m; subst m; exact v
    · rw [List.mem_singleton] at mu; subst mu
      rcases ha t m with q | ⟨q1, q2⟩
      · exact .inl q
      · refine .inr ⟨q1, ?_⟩
        -- t is no later than the last
        rcases List.eq_nil_or_concat R with e | ⟨R', l, e⟩
        · subst e; cases m
        · subst e
          have nl := hl l (by simp)
          rw [List.concat_eq_append] at m h
          rcases List.mem_append.1 m with m | m
          · have o := (List.pairwise_append.1 h.2).2.2 t m l (by simp)
            have vl := h.1 l (by simp)
            have al := ha l (by simp)
            omega
          · rw [List.mem_singleton] at m; subst m
            omega
    · rw [InS.app, InS.cons]
      constructor
      · rintro (q | q | q)
        · exact .inl q
        · exact .inr q
        · exact absurd q InS.nil
      · rintro (q | q)
        · exact .inl q
        · exact .inr (.inl q)
    · rcases List.mem_append.1 m with m | m
      · exact ha t m
      · rw [List.mem_singleton] at m; subst m; exact .inr ⟨rfl, Int.le_refl _⟩
  unfold stepJ
  rcases List.eq_nil_or_concat R with e | ⟨R', l, e⟩
  · subst e
    exact fresh fun l z => by simp at z
  · subst e
    rw [List.concat_eq_append] at h ha fresh ⊢
    rw [show (R' ++ [l]).getLast? = some l by simp]
    dsimp only
    by_cases c : l.1 = s.1 ∧ s.2.1 ≤ l.2.2 + 1
    · rw [if_pos c, show (R' ++ [l]).dropLast = R' by simp]
      have vl := h.1 l (by simp)
      have al := ha l (by simp)
      have pw := List.pairwise_append.1 h.2
      refine ⟨⟨fun t m => ?_, List.pairwise_append.2 ⟨pw.1, List.pairwise_singleton .., fun t m u mu => ?_⟩⟩, fun x y => ?_, fun t m => ?_, by simp⟩
      · rcases List.mem_append.1 m with m | m
        · exact h.1 t (by simp [m])
        · rw [List.mem_singleton] at m; subst m; dsimp only; omega
      · rw [List.mem_singleton] at mu; subst mu
        have := pw.2.2 t m l (by simp)
        dsimp only; omega
      · rw [InS.app, InS.app, InS.cons, InS.cons]
        dsimp only
        constructor
        · rintro (q | q | q)
          · exact .inl (.inl q)
          · by_cases z : x ≤ l.2.2
            · exact .inl (.inr (.inl (by omega)))
            · exact .inr (by omega)
          · exact absurd q InS.nil
        · rintro ((q | q | q) | q)
          · exact .inl q
          · exact .inr (.inl (by omega))
          · exact absurd q InS.nil
          · exact .inr (.inl (by omega))
      · rcases List.mem_append.1 m with m | m
        · exact ha t (by simp [m])
        · rw [List.mem_singleton] at m; subst m; exact .inr ⟨rfl, by dsimp only; omega⟩
    · rw [if_neg c]
      exact fresh fun l' z => by simp at z; subst z; exact c
/-- a row of spans in order of (y, first): all of them, in normal form -/
theorem foldJ_ok : ∀ (L R : List Sp3), Can R → (∀ s ∈ L, s.2.1 ≤ s.2.2) → (∀ s ∈ L, Ahead R s.1 s.2.1) → L.Pairwise (fun s t => s.1 < t.1 ∨ (s.1 = t.1 ∧ s.2.1 ≤ t.2.1)) →
    Can (L.foldl stepJ R) ∧ (∀ x y, InS (L.foldl stepJ R) x y ↔ InS R x y ∨ InS L x y) ∧ (L.foldl stepJ R).length ≤ R.length + L.length
  | [], R, h, _, _, _ => ⟨h, fun x y => ⟨.inl, fun z => z.elim id fun q => absurd q InS.nil⟩, by simp⟩
  | s :: L, R, h, hv, ha, hp => by
    obtain ⟨p1, p2⟩ := List.pairwise_cons.1 hp
    obtain ⟨s1, s2, s3, s4⟩ := stepJ_ok h (hv s (List.mem_cons_self ..)) (ha s (List.mem_cons_self ..))
    obtain ⟨i1, i2, i3⟩ := foldJ_ok L (stepJ R s) s1 (fun t m => hv t (List.mem_cons_of_mem _ m)) (fun t m u mu => by
      have a := s3 u mu
      have b := p1 t m
      omega) p2
    refine ⟨i1, fun x y => ?_, by rw [List.length_cons]; show (L.foldl stepJ (stepJ R s)).length ≤ _; omega⟩
    show InS (L.foldl stepJ (stepJ R s)) x y ↔ _
    rw [i2, s2, InS.cons]
    constructor
    · rintro ((q | q) | q)
      · exact .inl q
      · exact .inr (.inl q)
      · exact .inr (.inr q)
    · rintro (q | q | q)
      · exact .inl (.inl q)
      · exact .inl (.inr q)
      · exact .inr q
end Z

set_option Elab.async false
set_option linter.all false
set_option maxRecDepth 100000
namespace Z
open PySem PySem.Spec PyProof.Rows L2

/-! ### sorting of pairs and triples; walks that grow -/
theorem forO_grow {α β Ω : Type} (g : List β → α → List β) (N : Nat) (hg : ∀ s x, (g s x).length ≤ s.length + 1) {b : α → List β → (List β → Option Ω) → Option Ω} {k : List β → Option Ω} : ∀ (xs : List α) (s : List β), s.length + xs.length ≤ N →
    (∀ x ∈ xs, ∀ s kc, s.length + 1 ≤ N → b x s kc = kc (g s x)) → forO xs s b k = k (xs.foldl g s)
  | [], s, _, _ => rfl
  | x :: xs, s, hl, h => by
    rw [List.length_cons] at hl
    refine (h x (List.mem_cons_self ..) s _ (by omega)).trans ?_
    have := hg s x
    exact forO_grow g N hg xs (g s x) (by omega) fun y m => h y (List.mem_cons_of_mem _ m)
theorem lt3_no {x y : Sp3} : lt3 ltI ltI ltI x y = false ↔ ¬(x.1 < y.1 ∨ (x.1 = y.1 ∧ (x.2.1 < y.2.1 ∨ (x.2.1 = y.2.1 ∧ x.2.2 < y.2.2)))) := by
  unfold lt3 ltI
  by_cases c : x.1 = y.1
  · rw [if_pos c]
    by_cases d : x.2.1 = y.2.1
    · rw [if_pos d, decide_eq_false_iff_not]; omega
    · rw [if_neg d, decide_eq_false_iff_not]; omega
  · rw [if_neg c, decide_eq_false_iff_not]; omega
theorem lt3_yes {x y : Sp3} : lt3 ltI ltI ltI x y = true ↔ (x.1 < y.1 ∨ (x.1 = y.1 ∧ (x.2.1 < y.2.1 ∨ (x.2.1 = y.2.1 ∧ x.2.2 < y.2.2)))) := by
  rw [← Bool.not_eq_false, lt3_no]
  exact Classical.not_not
theorem sort3_pw (l : List Sp3) : (sortB (lt3 ltI ltI ltI) l).Pairwise fun s t => s.1 < t.1 ∨ (s.1 = t.1 ∧ s.2.1 ≤ t.2.1) := by
  have := List.pairwise_mergeSort (le := fun x y : Sp3 => !lt3 ltI ltI ltI y x) (fun a b c h1 h2 => by
    simp only [Bool.not_eq_true'] at h1 h2 ⊢
    rw [lt3_no] at h1 h2 ⊢; omega) (fun a b => by
    cases h : lt3 ltI ltI ltI b a with
    | false => rfl
    | true =>
      have : lt3 ltI ltI ltI a b = false := by
        rw [lt3_yes] at h; rw [lt3_no]; omega
      rw [this]; rfl) l
  exact this.imp fun {a b} h => by
    have h' : lt3 ltI ltI ltI b a = false := by simpa using h
    rw [lt3_no] at h'; omega
theorem sort2_pw (l : List (Int × Int)) : (sortB lpp l).Pairwise fun s t => s.1 < t.1 ∨ (s.1 = t.1 ∧ s.2 ≤ t.2) := by
  have := List.pairwise_mergeSort (le := fun x y : Int × Int => !lpp y x) (fun a b c h1 h2 => by
    simp only [Bool.not_eq_true'] at h1 h2 ⊢
    rw [lpp_no] at h1 h2 ⊢; omega) (fun a b => by
    cases h : lpp b a with
    | false => rfl
    | true =>
      have : lpp a b = false := by
        rw [lpp_iff] at h; rw [lpp_no]; omega
      rw [this]; rfl) l
  exact this.imp fun {a b} h => by
    have h' : lpp b a = false := by simpa using h
    rw [lpp_no] at h'; omega
theorem sortB_mem {α : Type} {lt : α → α → Bool} {l : List α} {x : α} : x ∈ sortB lt l ↔ x ∈ l := (List.mergeSort_perm _ _).mem_iff
theorem sortB_len {α : Type} {lt : α → α → Bool} {l : List α} : (sortB lt l).length = l.length := (List.mergeSort_perm _ _).length_eq
theorem InS.same {R S : List Sp3} (h : ∀ s, s ∈ R ↔ s ∈ S) {x y : Int} : InS R x y ↔ InS S x y :=
  ⟨fun ⟨s, m, q⟩ => ⟨s, (h s).1 m, q⟩, fun ⟨s, m, q⟩ => ⟨s, (h s).2 m, q⟩⟩
theorem Can.nil : Can [] := ⟨fun _ m => (nomatch m), List.Pairwise.nil⟩
/-- the normal form of any spans -/
theorem norm_ok {L : List Sp3} (hv : ∀ s ∈ L, s.2.1 ≤ s.2.2) : Can ((sortB (lt3 ltI ltI ltI) L).foldl stepJ []) ∧ (∀ x y, InS ((sortB (lt3 ltI ltI ltI) L).foldl stepJ []) x y ↔ InS L x y) ∧ ((sortB (lt3 ltI ltI ltI) L).foldl stepJ []).length ≤ L.length := by
  obtain ⟨a, b, c⟩ := foldJ_ok (sortB (lt3 ltI ltI ltI) L) [] Can.nil (fun s m => hv s (sortB_mem.1 m)) (fun s _ t m => nomatch m) (sort3_pw L)
  refine ⟨a, fun x y => ?_, by rw [sortB_len] at c; simpa using c⟩
  rw [b, InS.same (fun s => sortB_mem)]
  exact ⟨fun z => z.elim (fun q => absurd q InS.nil) id, .inr⟩
/-- of cells, told as (y, x) -/
def spanOf (p : Int × Int) : Sp3 := (p.1, p.2, p.2)
theorem cells_ok {L : List (Int × Int)} : Can (((sortB lpp (L.map fun c => (c.2, c.1))).map spanOf).foldl stepJ []) ∧ (∀ x y, InS (((sortB lpp (L.map fun c => (c.2, c.1))).map spanOf).foldl stepJ []) x y ↔ (x, y) ∈ L) ∧ (((sortB lpp (L.map fun c => (c.2, c.1))).map spanOf).foldl stepJ []).length ≤ L.length := by
  obtain ⟨a, b, c⟩ := foldJ_ok ((sortB lpp (L.map fun c => (c.2, c.1))).map spanOf) [] Can.nil (fun s m => by
    obtain ⟨p, _, rfl⟩ := List.mem_map.1 m; exact Int.le_refl _) (fun s _ t m => nomatch m) (List.pairwise_map.2 ((sort2_pw _).imp fun h => h))
  refine ⟨a, fun x y => ?_, by rw [List.length_map, sortB_len, List.length_map] at c; simpa using c⟩
  rw [b]
  constructor
  · rintro (q | ⟨s, m, q⟩)
    · exact absurd q InS.nil
    · obtain ⟨p, mp, rfl⟩ := List.mem_map.1 m
      obtain ⟨d, md, rfl⟩ := List.mem_map.1 (sortB_mem.1 mp)
      have e : d = (x, y) := by
        simp only [spanOf] at q
        exact Prod.ext (by show d.1 = x; omega) q.1
      rw [← e]; exact md
  · intro m
    exact .inr ⟨(y, x, x), List.mem_map.2 ⟨(y, x), sortB_mem.2 (List.mem_map.2 ⟨(x, y), m, rfl⟩), rfl⟩, rfl, Int.le_refl _, Int.le_refl _⟩
theorem stepJ_len (R : List Sp3) (s : Sp3) : (stepJ R s).length ≤ R.length + 1 := by
  unfold stepJ
  rcases List.eq_nil_or_concat R with e | ⟨R', l, e⟩
  · subst e; simp
  · subst e
    rw [List.concat_eq_append, show (R' ++ [l]).getLast? = some l by simp]
    dsimp only
    split <;> simp
theorem ixN_last {α : Type} {l : List α} {a : α} : ixN (l ++ [a]).length (-(1 : Int)) = some l.length := by
  unfold ixN
  rw [if_neg (by decide), if_pos (by simp; omega)]
  have : (-(1 : Int) + ((l ++ [a]).length : Int)).toNat = l.length := by simp; omega
  rw [this]
theorem set_last {α : Type} {l : List α} {a b : α} : (l ++ [a]).set l.length b = l ++ [b] := by
  rw [List.set_append_right _ _ (Nat.le_refl _), Nat.sub_self]; rfl
/-- how the last of a row is looked at: the program's way -/
theorem stepJ_run {Ω : Type} {t : List Sp3} {x : Sp3} {kc : List Sp3 → Option Ω} (hl : t.length + 1 ≤ SZ) :
    (if (decide ((0 : Int) < (List.length t : Int))) = true then ((atI t (-(1 : Int))).bind fun y69 =>
      if (decide (y69.1 = x.1)) = true then ((atI t (-(1 : Int))).bind fun y75 =>
        if (decide (x.2.1 ≤ (y75.2.2 + (1 : Int)))) = true then ((atI t (-(1 : Int))).bind fun y83 =>
          (atI t (-(1 : Int))).bind fun y86 =>
          (ixN (List.length t) (-(1 : Int))).bind fun n94 => kc (List.set t n94 (x.1, y83.2.1, (max y86.2.2 x.2.2))))
        else ck (decide (List.length t < SZ)) (kc (t ++ [(x.1, x.2.1, x.2.2)])))
      else (if false = true then ((atI t (-(1 : Int))).bind fun y83 =>
          (atI t (-(1 : Int))).bind fun y86 =>
          (ixN (List.length t) (-(1 : Int))).bind fun n94 => kc (List.set t n94 (x.1, y83.2.1, (max y86.2.2 x.2.2)))) else ck (decide (List.length t < SZ)) (kc (t ++ [(x.1, x.2.1, x.2.2)]))))
    else (if false = true then ((atI t (-(1 : Int))).bind fun y83 =>
          (atI t (-(1 : Int))).bind fun y86 =>
          (ixN (List.length t) (-(1 : Int))).bind fun n94 => kc (List.set t n94 (x.1, y83.2.1, (max y86.2.2 x.2.2)))) else ck (decide (List.length t < SZ)) (kc (t ++ [(x.1, x.2.1, x.2.2)])))) = kc (stepJ t x) := by
  rw [decide_eq_true (show t.length < SZ by omega), ck_true]
  unfold stepJ
  rcases List.eq_nil_or_concat t with e | ⟨R', l, e⟩
  · subst e; rfl
  · subst e
    rw [List.concat_eq_append, show (R' ++ [l]).getLast? = some l by simp, show (R' ++ [l]).dropLast = R' by simp, if_pos (decide_eq_true (show (0 : Int) < ((R' ++ [l]).length : Int) by rw [List.length_append, List.length_singleton]; omega)), atI_last, ixN_last]
    simp only [Option.bind_some, set_last]
    by_cases c : l.1 = x.1
    · by_cases d : x.2.1 ≤ l.2.2 + 1
      · rw [if_pos (decide_eq_true c), if_pos (decide_eq_true d), if_pos ⟨c, d⟩]
      · rw [if_pos (decide_eq_true c), if_neg (by simpa using d), if_neg (fun z => d z.2)]
    · rw [if_neg (show ¬ (decide (l.1 = x.1) = true) from fun z => c (of_decide_eq_true z)), if_neg (show ¬ (false = true) by decide), if_neg (show ¬ (l.1 = x.1 ∧ x.2.1 ≤ l.2.2 + 1) from fun z => c z.1)]
end Z

set_option Elab.async false
set_option linter.all false
set_option maxRecDepth 100000
namespace Z
open PySem PySem.Spec PyProof.Rows L2

/-! ### an own list read as data -/
theorem RelAll.asD {α : Type} {E : Enc α} {K : Fg} {F H : Hp} : ∀ {fps : List Addr} {vs : List V} {xs : List α}, RelAll ((it E).rel K F H) fps vs xs → RelAll ((it eD).rel K F H) fps vs (xs.map E.enc)
  | _, _, _, .nil => .nil
  | _, _, _, .cons h r => .cons h (RelAll.asD r)
section
variable {X : Cx} {R I Ω : Type} {SR : Stor R} {envR : I → Env} {kr : R → I → Option Ω} {bk ct : Lp Ω} {env : Env} {sts : List Stmt} {J : Type} {envJ : J → Env}
theorem lb_asD {f : (J → Option Ω) → Option Ω} {w : Option V} {α : Type} {E : Enc α} {xs : List α} (i : Nat) (he : env[i]? = some (.st w (List α) (ls (it E)) xs))
    (hr : LB X SR envR kr bk ct (env.set i (.st w (List PyData) (ls (it eD)) (xs.map E.enc))) sts envJ f) : LB X SR envR kr bk ct env sts envJ f :=
  fun C F H σs es σ kn ω D hK hl h hk qn qb qc qr => by
    obtain ⟨v, fp, e1, r, nd, ow, fin⟩ := h.mut (i := es.length + i) (by rw [at_app _ rfl]; exact he)
    obtain ⟨p, vs, fps, rfl, hp, ra, rfl⟩ := r
    have h2 := fin (List PyData) (ls (it eD)) (xs.map E.enc) H (p :: fps) (fun _ _ _ => rfl) (fun _ m => m) ⟨p, vs, fps, rfl, hp, ra.asD, rfl⟩ nd fun a m => ⟨(ow a m).2.2, .inl m⟩
    rw [List.set_append_right _ _ (Nat.le_add_right _ _), Nat.add_sub_cancel_left] at h2
    exact hr C F H σs es σ kn ω D hK hl h2 hk qn qb qc qr
end
/-! ### xs[::-1], order of tuples of ints -/
theorem RepAll.rev {K : Fg} {F : Hp} : ∀ {vs : List V} {ds : List PyData}, RepAll K F vs ds → RepAll K F vs.reverse ds.reverse
  | _, _, .nil => .nil
  | _, _, .cons h r => by
    rw [List.reverse_cons, List.reverse_cons]
    exact (RepAll.rev r).app (.cons h .nil)
section
variable {X : Cx} {Ω : Type} {env : Env} {pos p2 p3 p4 : Pos} {a b : Expr} {P P1 P2 τ α : Type} {S : Stor τ} {E : Enc α} {e' : P → Env} {g : τ → List α} {f : (τ → P → Option Ω) → Option Ω}
theorem lx_rev {k : Nat} (hv : LVw S (it E) g) (ha : LX X env a S e' f) : LX X env (.Subscript a (.Slice none none (some (.UnaryOp .USub (.Constant (.int 1) k p2) p3)) p4) pos) (ls (it E)) e' (fun kk => f fun x p => kk (g x).reverse p) :=
  fun C F H σs es σ k ω Q hK hl h hk q => tE.of X (pe_revL (peC X)) (lo_run (lo_of ha) (fun _ => trivial) hK hl h hk fun x p v F' H' fp hk' h' r => by
    obtain ⟨t0, vs, fps, rfl, l1, ra⟩ := hv.view h'.sF r
    have rr := ra.zero.2.rev
    rw [← List.map_reverse] at rr
    exact ⟨t0, vs, rfl, by rw [← hK]; exact l1, fun t nt => q _ p (.ref t) F' _ hk' (h'.newOw nt ⟨t, _, [], rfl, upd_same, rr.zero, rfl⟩)⟩)
end
def le3 (x y : Int × Int × Int) : Bool := if x.1 = y.1 then (if x.2.1 = y.2.1 then (if x.2.2 = y.2.2 then true else decide (x.2.2 ≤ y.2.2)) else decide (x.2.1 ≤ y.2.1)) else decide (x.1 ≤ y.1)
section
variable {X : Cx} {Ω : Type} {env : Env} {pos : Pos} {a b : Expr} {P1 P2 : Type} {e1 : P1 → Env} {e2 : P1 → P2 → Env} {fa : (Int × Int × Int → P1 → Option Ω) → Option Ω} {fb : P1 → (Int × Int × Int → P2 → Option Ω) → Option Ω}
theorem rep_t3 {K : Fg} {F H : Hp} {v : V} {x : Int × Int × Int} (s : Same F H) (h : Rep K F v ((eT3 eI eI eI).enc x)) : ∃ p, v = .ref p ∧ SqT K H p ([x.1, x.2.1, x.2.2].map V.int) := by
  obtain ⟨p, vs, rfl, h1, h2⟩ := Rep.tup_inv (ds := [.int x.1, .int x.2.1, .int x.2.2]) h
  have h3 : RepAll K F vs ([x.1, x.2.1, x.2.2].map eI.enc) := h2
  rw [h3.ints] at h1
  exact ⟨p, rfl, same_sqT s h1⟩
theorem lc_le3 (hu : X.A.units + 64 < cLine) (ha : LX X env a (it (eT3 eI eI eI)) e1 fa) (hb : ∀ p1, LX X (e1 p1) b (it (eT3 eI eI eI)) (e2 p1) (fb p1)) :
    LC X env .LtE a b (fun p : P1 × P2 => e2 p.1 p.2) (fun k => fa fun x p1 => fb p1 fun y p2 => k (le3 x y) (p1, p2)) :=
  lc_cmp (op_leT (by omega)) (lo_of ha) (fun p1 => lo_of (hb p1)) (fun _ _ => trivial) (fun _ _ => trivial) fun K F H fp fq v u x y Q hK s r1 r2 q => by
    subst hK
    obtain ⟨p, rfl, h1⟩ := rep_t3 s r1.2
    obtain ⟨p', rfl, h2⟩ := rep_t3 s r2.2
    refine ⟨p, p', _, _, rfl, rfl, h1, h2, ?_⟩
    have e : le3 x y = Ob.lexAt (fun j => decide ([x.1, x.2.1, x.2.2].getD j 0 = [y.1, y.2.1, y.2.2].getD j 0)) (fun j => decide ([x.1, x.2.1, x.2.2].getD j 0 ≤ [y.1, y.2.1, y.2.2].getD j 0)) (decide ([x.1, x.2.1, x.2.2].length ≤ [y.1, y.2.1, y.2.2].length)) 0 (min [x.1, x.2.1, x.2.2].length [y.1, y.2.1, y.2.2].length) := by
      show _ = Ob.lexAt _ _ _ 0 3
      rw [Ob.lexAt_succ, Ob.lexAt_succ, Ob.lexAt_succ, Ob.lexAt_zero]
      unfold le3
      simp
    rw [← e]; exact q
end
end Z

set_option Elab.async false
set_option linter.all false
set_option maxRecDepth 100000
namespace Z
open PySem PySem.Spec PyProof.Rows L2

/-! ### what data are, read back -/
structure Dec {τ : Type} (E : Enc τ) (g : PyData → Option τ) : Prop where
  ok : ∀ d x, g d = some x → E.enc x = d
  rt : ∀ x, g (E.enc x) = some x
def deI : PyData → Option Int | .int i => some i | _ => none
def deB : PyData → Option Bool | .bool i => some i | _ => none
def deS : PyData → Option Str | .str i => some i | _ => none
def deN : PyData → Option Unit | .none => some () | _ => none
def deD : PyData → Option PyData := some
def deAll {τ : Type} (g : PyData → Option τ) : List PyData → Option (List τ)
  | [] => some []
  | d :: ds => (g d).bind fun x => (deAll g ds).map fun xs => x :: xs
def deL {τ : Type} (g : PyData → Option τ) : PyData → Option (List τ) | .list ds => deAll g ds | _ => none
def deV {τ : Type} (g : PyData → Option τ) : PyData → Option (List τ) | .tuple ds => deAll g ds | _ => none
def deT2 {α β : Type} (a : PyData → Option α) (b : PyData → Option β) : PyData → Option (α × β)
  | .tuple [x, y] => (a x).bind fun u => (b y).map fun v => (u, v)
  | _ => none
def deT3 {α β γ : Type} (a : PyData → Option α) (b : PyData → Option β) (c : PyData → Option γ) : PyData → Option (α × β × γ)
  | .tuple [x, y, z] => (a x).bind fun u => (b y).bind fun v => (c z).map fun w => (u, v, w)
  | _ => none
def deT4 {α β γ δ : Type} (a : PyData → Option α) (b : PyData → Option β) (c : PyData → Option γ) (d : PyData → Option δ) : PyData → Option (α × β × γ × δ)
  | .tuple [x, y, z, t] => (a x).bind fun u => (b y).bind fun v => (c z).bind fun w => (d t).map fun s => (u, v, w, s)
  | _ => none
def deO {τ : Type} (g : PyData → Option τ) : PyData → Option (Option τ) | .none => some none | d => (g d).map some
section
variable {τ α β γ δ : Type} {E : Enc τ} {g : PyData → Option τ} {A : Enc α} {B : Enc β} {G : Enc γ} {D : Enc δ} {a : PyData → Option α} {b : PyData → Option β} {c : PyData → Option γ} {d : PyData → Option δ}
theorem dcI : Dec eI deI := ⟨fun d x h => by cases d <;> simp [deI] at h; subst h; rfl, fun _ => rfl⟩
theorem dcB : Dec eB deB := ⟨fun d x h => by cases d <;> simp [deB] at h; subst h; rfl, fun _ => rfl⟩
theorem dcS : Dec eS deS := ⟨fun d x h => by cases d <;> simp [deS] at h; subst h; rfl, fun _ => rfl⟩
theorem dcN : Dec eN deN := ⟨fun d x h => by cases d <;> simp [deN] at h; rfl, fun _ => rfl⟩
theorem dcD : Dec eD deD := ⟨fun d x h => by simp [deD] at h; subst h; rfl, fun _ => rfl⟩
theorem deAll_ok (h : Dec E g) : ∀ (ds : List PyData) (xs : List τ), deAll g ds = some xs → xs.map E.enc = ds
  | [], xs, e => by simp [deAll] at e; subst e; rfl
  | d :: ds, xs, e => by
    unfold deAll at e
    cases e1 : g d with
    | none => rw [e1] at e; cases e
    | some x =>
      rw [e1, Option.bind_some] at e
      cases e2 : deAll g ds with
      | none => rw [e2] at e; cases e
      | some ys =>
        rw [e2] at e
        cases e
        rw [List.map_cons, h.ok d x e1, deAll_ok h ds ys e2]
theorem deAll_rt (h : Dec E g) : ∀ xs : List τ, deAll g (xs.map E.enc) = some xs
  | [] => rfl
  | x :: xs => by rw [List.map_cons, deAll, h.rt, Option.bind_some, deAll_rt h xs]; rfl
theorem dcL (h : Dec E g) : Dec (eL E) (deL g) := ⟨fun d x e => by
  cases d <;> simp only [deL] at e <;> first | cases e | skip
  exact congrArg PyData.list (deAll_ok h _ _ e), fun x => deAll_rt h x⟩
theorem dcV (h : Dec E g) : Dec (eV E) (deV g) := ⟨fun d x e => by
  cases d <;> simp only [deV] at e <;> first | cases e | skip
  exact congrArg PyData.tuple (deAll_ok h _ _ e), fun x => deAll_rt h x⟩
theorem bind_eq' {α β : Type} {o : Option α} {f : α → Option β} {y : β} (h : o.bind f = some y) : ∃ x, o = some x ∧ f x = some y := bind_some h
theorem map_eq' {α β : Type} {o : Option α} {f : α → β} {y : β} (h : o.map f = some y) : ∃ x, o = some x ∧ f x = y := by
  cases o with
  | none => cases h
  | some x => exact ⟨x, rfl, Option.some.inj h⟩
theorem dcT2 (ha : Dec A a) (hb : Dec B b) : Dec (eT2 A B) (deT2 a b) := ⟨fun d x e => by
  unfold deT2 at e
  split at e
  · obtain ⟨u, e1, e⟩ := bind_some e
    obtain ⟨v, e2, e⟩ := map_eq' e
    subst e
    show PyData.tuple [A.enc u, B.enc v] = _
    rw [ha.ok _ _ e1, hb.ok _ _ e2]
  · exact absurd e (by simp), fun x => by
  show (a (A.enc x.1)).bind _ = _
  rw [ha.rt, Option.bind_some, hb.rt]; rfl⟩
theorem dcT3 (ha : Dec A a) (hb : Dec B b) (hc : Dec G c) : Dec (eT3 A B G) (deT3 a b c) := ⟨fun d x e => by
  unfold deT3 at e
  split at e
  · obtain ⟨u, e1, e⟩ := bind_some e
    obtain ⟨v, e2, e⟩ := bind_some e
    obtain ⟨w, e3, e⟩ := map_eq' e
    subst e
    show PyData.tuple [A.enc u, B.enc v, G.enc w] = _
    rw [ha.ok _ _ e1, hb.ok _ _ e2, hc.ok _ _ e3]
  · exact absurd e (by simp), fun x => by
  show (a (A.enc x.1)).bind _ = _
  rw [ha.rt, Option.bind_some, hb.rt, Option.bind_some, hc.rt]; rfl⟩
theorem dcT4 (ha : Dec A a) (hb : Dec B b) (hc : Dec G c) (hd : Dec D d) : Dec (eT4 A B G D) (deT4 a b c d) := ⟨fun d x e => by
  unfold deT4 at e
  split at e
  · obtain ⟨u, e1, e⟩ := bind_some e
    obtain ⟨v, e2, e⟩ := bind_some e
    obtain ⟨w, e3, e⟩ := bind_some e
    obtain ⟨z, e4, e⟩ := map_eq' e
    subst e
    show PyData.tuple [A.enc u, B.enc v, G.enc w, D.enc z] = _
    rw [ha.ok _ _ e1, hb.ok _ _ e2, hc.ok _ _ e3, hd.ok _ _ e4]
  · exact absurd e (by simp), fun x => by
  show (a (A.enc x.1)).bind _ = _
  rw [ha.rt, Option.bind_some, hb.rt, Option.bind_some, hc.rt, Option.bind_some, hd.rt]; rfl⟩
theorem dcO {hn : ∀ x, E.enc x ≠ .none} (h : Dec E g) : Dec (eO E hn) (deO g) := ⟨fun d x e => by
  unfold deO at e
  split at e
  · cases e; rfl
  · obtain ⟨y, e1, e⟩ := map_eq' e
    subst e
    exact h.ok _ _ e1, fun x => by
  cases x with
  | none => rfl
  | some x =>
    show deO g (E.enc x) = _
    unfold deO
    split
    · rename_i e; exact absurd e (hn x)
    · rw [h.rt]; rfl⟩
end
/-- a part of data -/
def partD (d : PyData) (n : Int) : Option PyData := match d with
  | .tuple ds => atI ds n
  | .list ds => atI ds n
  | _ => none

section
variable {X : Cx} {Ω : Type} {env : Env} {nm : Str} {pos np : Pos} {a b c e : Expr} {P P1 P2 P3 : Type} {τ τ1 τ2 α β : Type} {S : Stor τ} {S1 : Stor τ1} {S2 : Stor τ2} {E : Enc τ} {E1 : Enc τ1} {E2 : Enc τ2} {G : Env → Prop} {e' : P → Env} {e1 : P1 → Env} {e2 : P1 → P2 → Env} {e3 : P1 → P2 → P3 → Env} {f : (τ → P → Option Ω) → Option Ω}
theorem lx_dec {τ' : Type} {E' : Enc τ'} {g : PyData → Option τ'} (dc : Dec E' g) {f : (PyData → P → Option Ω) → Option Ω} (h : LX X env e (it eD) e' f) : LX X env e (it E') e' (fun (k : τ' → P → Option Ω) => f fun a p => (g a).bind fun b => k b p) :=
  lx_cast h g fun d b hb => dc.ok d b hb
/-- d[n] of data -/
theorem lx_ixD {fa : (PyData → P1 → Option Ω) → Option Ω} {fb : P1 → (Int → P2 → Option Ω) → Option Ω} (ha : LX X env a (it eD) e1 fa) (hb : ∀ p1, LX X (e1 p1) b (it eI) (e2 p1) (fb p1)) (hp : PlainIx b := by exact fun _ _ => rfl) :
    LX X env (.Subscript a b pos) (it eD) (fun p : P1 × P2 => e2 p.1 p.2) (fun k => fa fun x p1 => fb p1 fun i p2 => (partD x i).bind fun y => k y (p1, p2)) :=
  fun C F H σs es σ k ω Q hK hl h hk q => tE.of X (pe_ix ix_seq (peC X) (peC X) hp) (op2_run (lo_of ha) (fun p1 => lo_of (hb p1)) (fun _ _ => trivial) (fun _ _ => trivial) hK hl h hk
    fun x p1 i p2 v u F' H' fp fq hk' h' r1 r2 => by
      obtain ⟨y, hy, hk2⟩ := bind_some hk'
      clear hk'
      obtain ⟨_, r2⟩ := r2
      obtain ⟨_, r1⟩ := r1
      cases r2
      have r1' : Rep C.K F' v x := r1
      unfold partD at hy
      split at hy
      · obtain ⟨p, vs, rfl, h1, h2⟩ := r1'.tup_inv
        obtain ⟨w, hw, rw'⟩ := h2.atD hy
        exact .inr (.inl ⟨p, vs, i, w, rfl, rfl, by rw [← hK]; exact same_sqT h'.sF h1, hw, q y (p1, p2) w F' H' hk2 (h'.pushSh rw')⟩)
      · obtain ⟨p, vs, rfl, h1, h2⟩ := r1'.lst_inv
        obtain ⟨w, hw, rw'⟩ := h2.atD hy
        exact .inl ⟨p, vs, i, w, rfl, rfl, by rw [← hK]; exact SqL.of (h'.sF _ _ h1), hw, q y (p1, p2) w F' H' hk2 (h'.pushSh rw')⟩
      · cases hy)
/-- is a list not empty -/
theorem lt_tru {g : τ → List α} {Sa : Stor α} (hv : LVw S Sa g) (ha : LO X G env a S e' f) (hG : ∀ p, G (e' p)) (he : ∀ whole, isTrue a X.env whole = (do let v ← whole; standAt a.pos; holding [v] (truthy v)) := by intro _; rfl) :
    LT X env a e' (fun k => f fun x p => k (!(g x).isEmpty) p) :=
  fun C F H σs es σ k ω Q hK hl h hk q => tT.of X (pt_truth (peC X) he) (lo_run ha hG hK hl h hk fun x p v F' H' fp hk' h' rr => by
    obtain ⟨t, vs, fps, rfl, h1, h2⟩ := hv.view h'.sF rr
    refine ⟨!(g x).isEmpty, .inl ⟨vs, by rw [← hK]; exact h1, ?_⟩, q _ p F' H' hk' h'⟩
    have := h2.length
    cases vs <;> cases hgx : g x <;> rw [hgx] at this <;> simp_all)
/-- a tuple of a kind: never empty -/
theorem lt_truI {f : (Int → P → Option Ω) → Option Ω} (ha : LX X env a (it eI) e' f) (he : ∀ whole, isTrue a X.env whole = (do let v ← whole; standAt a.pos; holding [v] (truthy v)) := by intro _; rfl) :
    LT X env a e' (fun k => f fun x p => k (x != 0) p) :=
  fun C F H σs es σ k ω Q hK hl h hk q => tT.of X (pt_truth (peC X) he) (lo_run (lo_of ha) (fun _ => trivial) hK hl h hk fun x p v F' H' fp hk' h' rr => by
    obtain ⟨_, rr⟩ := rr
    cases rr
    exact ⟨x != 0, rfl, q _ p F' H' hk' h'⟩)
end
end Z

set_option Elab.async false
set_option linter.all false
set_option maxRecDepth 100000
namespace Z
open PySem PySem.Spec PyProof.Rows L2

/-! ### set(xs) of ints, sorted -/
section
variable {P : Program} {w : World} {A : Around} {E : Value → Shared → Prop} {s : Shared}
def inSet (val : Nat → Int) (i : Nat) (z : Int) : Bool := ((List.range i).map val).any fun y => y == z
theorem inSet_step (val : Nat → Int) (i : Nat) (z : Int) : inSet val (i + 1) z = (inSet val i z || decide (z = val i)) := by
  unfold inSet
  rw [List.range_succ, List.map_append, List.any_append]
  simp only [List.map_cons, List.map_nil, List.any_cons, List.any_nil, Bool.or_false]
  congr 1
  by_cases h : val i = z
  · rw [beq_iff_eq.2 h, decide_eq_true h.symm]
  · rw [beq_eq_false_iff_ne.2 h, decide_eq_false fun q => h q.symm]
theorem setR_loop {I : Addr} {fp wr : List Addr} {Γ : Array GenState → Array GenState → Prop} {n : Nat} {Pv : Nat → Value → Prop} {St : Nat → Shared → Prop} {R : Result → Shared → Prop} (W : WalksS P w A.in1 I fp wr Γ n Pv St) (d : Addr) (hd : d ∉ fp)
    (val : Nat → Int) (hval : ∀ i v, Pv i v → ∃ t, v = .int (val i) t) (hb : n + 1 < scanBound) : ∀ (k i : Nat) (s : Shared), n - i = k → i ≤ n → St i s → (∃ c, SetR w s.heap d (inSet val i) c ∧ c ≤ i) →
    (∀ s' c, Moved (d :: wr) Γ s s' → SetR w s'.heap d (inSet val n) c → c ≤ n → R (.ok (.ret .none)) s') → codeAny (model P w) A (.builtin "set.update.loop" ⟨[.ref d, .ref I], []⟩) R s := by
  have hdw : d ∉ wr := fun h => hd (W.sub _ h)
  have up : ∀ b ∈ wr, b ∈ d :: wr := fun b m => List.mem_cons_of_mem _ m
  intro k
  induction k with
  | zero =>
    rintro i s hk hi hst ⟨c, hc, hci⟩ hR
    obtain rfl : i = n := by omega
    refine codeAny_builtin PyProof.Rows.F.entry_set_update_loop ?_; rw [Around.under_plainId PyProof.Rows.F.plain_set_update_loop _]
    show wpAny _ A.in1 (pyNext (.ref I) >>= _) _ _ s; refine wpAny_bind (W.done s _ _ hst fun s' hm => ?_)
    show wpAny _ A.in1 (ret Value.none) _ _ s'; exact wpAny_pure (hR s' c (hm.mono up) (hc.at fun o e => hm.heap d o hdw e) hci)
  | succ k ih =>
    rintro i s hk hi hst ⟨c, hc, hci⟩ hR
    have hlt : i < n := by omega
    refine codeAny_builtin PyProof.Rows.F.entry_set_update_loop ?_; rw [Around.under_plainId PyProof.Rows.F.plain_set_update_loop _]
    show wpAny _ A.in1 (pyNext (.ref I) >>= _) _ _ s; refine wpAny_bind (W.item i s _ _ hlt hst fun v s' hP hst' hm => ?_)
    obtain ⟨t, rfl⟩ := hval i v hP
    have hc' : SetR w s'.heap d (inSet val i) c := hc.at fun o e => hm.heap d o hdw e
    show wpAny _ A.in1 (holding [Value.int (val i) t] (setAdd d (.int (val i) t)) >>= _) _ _ s'; refine wpAny_bind (wpAny_holding ?_)
    unfold setAdd; refine wpAny_holding (wpAny_bind ((intKind P w).pyHash (k := val i) (intKind_is P w _ _) ?_))
    refine setR_add_hashed (s := { s' with toks := s'.toks + 1 }) hc' (by omega) fun h' sb r => ?_
    have r' : SetR w h' d (inSet val (i + 1)) (if inSet val i (val i) = true then c else c + 1) := r.congr fun z => inSet_step val i z
    refine wpAny_pure ⟨plainId_quiet PyProof.Rows.F.plain_set_update_loop _, ih (i + 1) _ (by omega) hlt (W.frame _ s' _ _ hst' (Nat.le_succ _) fun b m o e => ?_) ⟨_, r', by split <;> omega⟩ fun s2 c2 hm2 h2 l2 => hR s2 c2 (Moved.trans W.gtrans ((hm.mono up).then_heap (Nat.le_succ _) fun b o m e => ?_) hm2) h2 l2⟩
    · rw [sb.2 b (fun q : b = d => hd (q ▸ m))]; exact e
    · rw [sb.2 b (fun q : b = d => m (q ▸ List.mem_cons_self))]; exact e
abbrev newSet (w : World) : Obj := { cls := .type "set", dict := none, data := .set #[] 0 (.fresh 0 0 (!w.params.followText "set-order")) }
set_option maxHeartbeats 3200000 in
theorem setR_list {l : Addr} {items : Array Value} {ns : List Int} {Q : Value → Shared → Prop} (hh : A.handled = none) (hl : s.heap.IsList l items) (hi : IntsAre items.toList ns) (hb : items.size + 1 < scanBound)
    (h : ∀ (h' : Heap) (tk c : Nat), SetR w h' s.heap.objs.size (inSet (fun i => ns.getD i 0) items.size) c → c ≤ items.size → (∀ b o, s.heap.get? b = some o → h'.get? b = some o) → Q (.ref s.heap.objs.size) { s with heap := h', toks := tk }) :
    wpAny (model P w) A (call (.type "set") [.ref l]) Q E s := by
  obtain ⟨c0, tl, hmro⟩ := PySem.F.called_set.mro
  have hmade := PySem.F.called_set.made; have hsub := PySem.F.called_set.sub
  refine wpAny_call (codeAny_of_tree ?_); show wpAny _ _ (callAny (.type "set") _) _ _ _
  refine wpAny_pure ⟨Code.quiet_builtin _ (by decide +kernel), codeAny_builtin PySem.F.entry_type_call ?_⟩; rw [Around.under_plain (weight_type_call_type "set" [.ref l] []) rfl]
  have h1 := PySem.F.called_set.notType; have h2 := PySem.F.called_set.canCreate; have hct := PySem.F.typeCall_set_1 (.ref l)
  repeat (any_goals (first | assumption | wp_step))
  refine codeAny_mono (code_set_led1 (.ref l) (E := E) (Q₁ := fun obj s₁ => obj = .ref s.heap.objs.size ∧ s₁ = { s with heap := s.heap.push (newSet w) }) ⟨rfl, rfl⟩) fun r s₁ hr => ?_
  cases r with
  | error e => exact hr
  | ok fl =>
    cases fl with
    | ret obj =>
      obtain ⟨rfl, rfl⟩ := hr
      have hS : (s.heap.push (newSet w)).get? s.heap.objs.size = some (newSet w) := Heap.get?_push_size _ rfl
      have hT : Shared.TypeIs { s with heap := s.heap.push (newSet w) } (.ref s.heap.objs.size) "set" := ⟨_, hS, rfl⟩
      have hli := PySem.F.called_set.init.lookup; have hbi := PySem.F.called_set.init.bind (.ref s.heap.objs.size)
      repeat (any_goals (first | assumption | wp_step))
      refine codeAny_mono (codeAny_call_builtin (R := wants (fun r s₂ => r = .none ∧ ∃ h' tk c, s₂ = { s with heap := h', toks := tk } ∧ SetR w h' s.heap.objs.size (inSet (fun i => ns.getD i 0) items.size) c ∧ c ≤ items.size ∧ (∀ b o, s.heap.get? b = some o → h'.get? b = some o)) E) PySem.F.called_set.init.plain PySem.F.entry_set_init (check_set_init_1 hT ?_)) fun r₂ s₂ hr₂ => ?_
      · obtain ⟨ol, hol, hcl, nl, hdl⟩ := hl
        obtain ⟨ocls, odict, odata, oslots⟩ := ol
        simp only at hcl hdl; subst hcl; subst hdl
        have hol' : (s.heap.push (newSet w)).get? l = some { cls := .type "list", dict := odict, data := .seq items nl, slots := oslots } := Heap.get?_push_of_some _ hol
        have hsls := PySem.F.sub_list_set; have hslf := PySem.F.sub_list_frozenset
        have hne : (Value.type "list" == Value.type "dict") = false := by decide
        have hl1 : (s.heap.push (newSet w)).IsList l items := ⟨_, hol', rfl, nl, rfl⟩
        unfold Builtin.«set.__init__» noKeywords Builtin.Frozenset.updateFrom; generalize hPI : pyIter = PI
        wp_walk; subst hPI
        refine wpAny_pyIter_list hl1 (wpAny_bind (wpAny_runValue ?_))
        have hlS : l < s.heap.objs.size := Heap.lt_size hol
        have hz1 : (s.heap.push (newSet w)).objs.size = s.heap.objs.size + 1 := Heap.size_push ..
        have hneI : l ≠ (s.heap.push (newSet w)).objs.size := by rw [hz1]; exact Nat.ne_of_lt (Nat.lt_succ_of_lt hlS)
        have hSf : s.heap.objs.size ∉ [(s.heap.push (newSet w)).objs.size, l] := by
          rw [hz1]; intro m; rcases List.mem_cons.1 m with q | m; exact absurd q (Nat.ne_of_lt (Nat.lt_succ_self _)); exact absurd (List.mem_singleton.1 m) (Nat.ne_of_gt hlS)
        have hval : ∀ (i : Nat) (v : Value), items[i]? = some v → ∃ t, v = .int ((fun i => ns.getD i 0) i) t := fun i v hv => PyProof.Rows.IntsAre.int_at hi i v (by rw [Array.getElem?_toList]; exact hv)
        refine setR_loop ((Walks.list (show A.in1.in1.in1.handled = none by simp [hh]) _ l hneI items).toS) s.heap.objs.size hSf (fun i => ns.getD i 0) hval hb (items.size - 0) 0 _ (by omega) (Nat.zero_le _) ⟨⟨_, Heap.get?_push_size _ rfl, rfl, rfl⟩, (hl1.push _)⟩ ⟨0, ?hS0, Nat.le_refl _⟩ ?hR
        case hS0 =>
          exact ((setR_fresh (h := s.heap) w).at fun o e => Heap.get?_push_of_some _ e).congr fun _ => rfl
        case hR =>
          rintro ⟨h', g2, d', tk', os'⟩ c hm hS' hc
          obtain rfl : g2 = s.gens := hm.gens
          obtain rfl : d' = s.drawn := hm.drawn
          obtain rfl : os' = s.os := hm.os
          show wpAny _ _ _ _ _ _; refine wpAny_pure ?_; show wpAny _ _ (ret Value.none) _ _ _
          refine wpAny_pure ⟨rfl, h', tk', c, rfl, hS', hc, fun b o e => ?_⟩
          have hb0 := Heap.lt_size e
          exact hm.heap b o (by rw [hz1]; intro m; rcases List.mem_cons.1 m with q | m; exact absurd q (Nat.ne_of_lt hb0); exact absurd (List.mem_singleton.1 m) (Nat.ne_of_lt (Nat.lt_succ_of_lt hb0))) (Heap.get?_push_of_some _ (Heap.get?_push_of_some _ e))
      · cases r₂ with
        | error e => exact hr₂
        | ok fl₂ =>
          cases fl₂ with
          | ret r =>
            obtain ⟨rfl, h', tk, c, rfl, hS', hc, hk'⟩ := hr₂
            repeat (any_goals (first | assumption | wp_step))
            exact h _ _ _ hS' hc hk'
          | _ => exact hr₂.elim
    | _ => exact hr.elim
end
section
variable {X : Cx}
def rSetI (K : Fg) (w : World) : List V → Hp → VK → Prop := fun vs H Q => ∃ (l : Addr) (ns : List Int), vs = [V.ref l] ∧ SqL K H l (ns.map V.int) ∧ ns.length < 64 ∧
  ∀ p S c, H p = none → (∀ z : Int, S z = true ↔ z ∈ ns) → c < 64 → Q (.ref p) (upd H p (SetO w p S c))
theorem cr_setI (hc : X.calm = true) : CallR X (.type "set") (rSetI X.K X.w) := by
  intro pins s σ H vs us Q I r h
  obtain ⟨l, ns, rfl, hs, h64, q⟩ := h
  rw [Vals.ref1 r]
  obtain ⟨uts, rv, pl, hz⟩ := I.list hs
  have hi := intsAre_of rv
  have hlen : uts.length = ns.length := by have := rv.length; simpa using this.symm
  refine setR_list (items := uts.toArray) (ns := ns) (I.ok.hd hc) pl.isList (by simpa using hi) (by simp [hlen]; unfold scanBound; omega) fun h' tk c R hc hk => ?_
  have hn : H s.heap.objs.size = none := I.hok.fresh (Nat.le_refl _)
  refine ⟨.ref _, upd H s.heap.objs.size (SetO X.w s.heap.objs.size (inSet (fun i => ns.getD i 0) uts.toArray.size) c), I.laid (t' := tk) hk (Nat.le_refl _) (setO_new R), rfl, q _ _ c hn (fun z => ?_) (by simp [hlen] at hc; omega)⟩
  unfold inSet
  rw [List.any_eq_true]
  simp only [List.mem_map, List.mem_range, beq_iff_eq, List.size_toArray, hlen]
  constructor
  · rintro ⟨y, ⟨i, hi, rfl⟩, rfl⟩
    rw [List.getD_eq_getElem?_getD, List.getElem?_eq_getElem hi]
    exact List.getElem_mem hi
  · intro m
    obtain ⟨i, hi, e⟩ := List.mem_iff_getElem.1 m
    exact ⟨z, ⟨i, hi, by rw [List.getD_eq_getElem?_getD, List.getElem?_eq_getElem hi, e]; rfl⟩, rfl⟩
/-- the members, ascending, each once -/
def usort : List Int → List Int
  | [] => []
  | x :: xs => let r := usort xs; if x ∈ r then r else r.filter (· < x) ++ x :: r.filter (x < ·)
theorem usort_mem {xs : List Int} {z : Int} : z ∈ usort xs ↔ z ∈ xs := by
  induction xs generalizing z with
  | nil => simp [usort]
  | cons x xs ih =>
    simp only [usort]
    split
    · rename_i h
      rw [ih] at h
      rw [ih, List.mem_cons]
      exact ⟨.inr, fun q => q.elim (fun e => e ▸ h) id⟩
    · rename_i h
      simp only [List.mem_append, List.mem_filter, List.mem_cons, decide_eq_true_eq, ih] at h ⊢
      constructor
      · rintro (q | q | q)
        · exact .inr q.1
        · exact .inl q
        · exact .inr q.1
      · rintro (q | q)
        · exact .inr (.inl q)
        · by_cases c : z < x
          · exact .inl ⟨q, c⟩
          · by_cases d : z = x
            · exact .inr (.inl d)
            · exact .inr (.inr ⟨q, by omega⟩)
theorem usort_pw : ∀ (xs : List Int), (usort xs).Pairwise (· < ·)
  | [] => List.Pairwise.nil
  | x :: xs => by
    have ih := usort_pw xs
    simp only [usort]
    split
    · exact ih
    · refine List.pairwise_append.2 ⟨ih.filter _, List.pairwise_cons.2 ⟨fun y m => by simpa using (List.mem_filter.1 m).2, ih.filter _⟩, fun y m z n => ?_⟩
      have hy : y < x := by simpa using (List.mem_filter.1 m).2
      rcases List.mem_cons.1 n with rfl | n
      · exact hy
      · have : x < z := by simpa using (List.mem_filter.1 n).2
        omega
theorem asc_uniq : ∀ {xs ys : List Int}, xs.Pairwise (· < ·) → ys.Pairwise (· < ·) → (∀ z, z ∈ xs ↔ z ∈ ys) → xs = ys
  | [], [], _, _, _ => rfl
  | [], y :: ys, _, _, h => by have := (h y).2 (List.mem_cons_self ..); cases this
  | x :: xs, [], _, _, h => by have := (h x).1 (List.mem_cons_self ..); cases this
  | x :: xs, y :: ys, p, q, h => by
    obtain ⟨p1, p2⟩ := List.pairwise_cons.1 p
    obtain ⟨q1, q2⟩ := List.pairwise_cons.1 q
    have e : x = y := by
      rcases List.mem_cons.1 ((h x).1 (List.mem_cons_self ..)) with e | m
      · exact e
      · rcases List.mem_cons.1 ((h y).2 (List.mem_cons_self ..)) with e | n
        · exact e.symm
        · have := p1 y n; have := q1 x m; omega
    subst e
    rw [asc_uniq p2 q2 fun z => ?_]
    constructor
    · intro m
      rcases List.mem_cons.1 ((h z).1 (List.mem_cons_of_mem _ m)) with e | n
      · have := p1 z m; omega
      · exact n
    · intro m
      rcases List.mem_cons.1 ((h z).2 (List.mem_cons_of_mem _ m)) with e | n
      · have := q1 z m; omega
      · exact n
theorem usort_is {xs ys : List Int} (p : ys.Pairwise (· < ·)) (h : ∀ z, z ∈ ys ↔ z ∈ xs) : ys = usort xs := asc_uniq p (usort_pw xs) fun z => by rw [usort_mem, h]
end
section
variable {X : Cx} {Ω : Type} {env : Env} {pos pos2 np np2 : Pos} {a : Expr} {P : Type} {τ : Type} {S : Stor τ} {G : Env → Prop} {e' : P → Env} {f : (τ → P → Option Ω) → Option Ω} {g : τ → List Int}
/-- sorted(set(xs)) of ints, fewer than 64 -/
theorem lx_usort (hc : X.calm = true) (hv : LVw S (it eI) g) (hm : X.mg "sorted" = none) (hm2 : X.mg "set" = none) (ha : LO X G env a S e' f) (hG : ∀ p, G (e' p)) (hg : Gl X "sorted" := by rfl) (hg2 : Gl X "set" := by rfl)
    (he : starEach (a :: []) X.env = (false, eval a X.env) :: starEach [] X.env := by rfl) (he2 : starEach (Expr.Call (.Name "set" np2) [a] [] pos2 :: []) X.env = (false, eval (Expr.Call (.Name "set" np2) [a] [] pos2) X.env) :: starEach [] X.env := by rfl)
    (hpl : (backTo pos (starEach [] X.env)).any (·.1) = false := by rfl) (hpl2 : (backTo pos2 (starEach [] X.env)).any (·.1) = false := by rfl) :
    LX X env (.Call (.Name "sorted" np) [.Call (.Name "set" np2) [a] [] pos2] [] pos) (ls (it eI)) e' (fun k => f fun x p => ck (decide ((g x).length < 64)) (k (usort (g x)) p)) :=
  fun C F H σs es σ k ω Q hK hl h hk q => tE.of X (pe_callB (cr_sortedSet hc) hg hm boot_sorted (pa_cons (pe_callTy (cr_setI hc) hg2 hm2 PyProof.Rows.boot_set (pa_cons (peC X) pa_nil he) (by decide) (by decide) he hpl2) pa_nil he2) (by decide) (by decide) he2 hpl)
    (lo_run ha hG hK hl h hk fun x p v F' H' fp hk' h' rr => by
      obtain ⟨hc, hk2⟩ := ck_some hk'
      clear hk'
      obtain ⟨t, vs, fps, rfl, h1, h2⟩ := hv.view h'.sF rr
      have := h2.zero.2.ints
      subst this
      refine ⟨t, g x, rfl, by rw [← hK]; exact h1, of_decide_eq_true hc, fun d S c nd hS hc => ?_⟩
      refine ⟨d, S, c, rfl, upd_same, hc, fun ns b pw hm hl nb => ?_⟩
      have e := usort_is (xs := g x) pw fun z => by rw [hm, hS]
      subst e
      have h3 := h'.newH (u := SetO X.w d S c) nd
      exact q _ p _ F' _ hk2 (h3.newOw nb ⟨b, _, [], rfl, upd_same, (RepAll.ofInts (usort (g x))).zero, rfl⟩))
end
end Z

set_option Elab.async false
set_option linter.all false
set_option maxRecDepth 100000
namespace Z
open PySem PySem.Spec PyProof.Rows L2

section
variable {X : Cx} {Ω : Type} {env : Env} {nm nm2 nm3 : Str} {pos np tp : Pos} {a b c e : Expr} {P P1 P2 P3 : Type} {τ τ1 τ2 τ3 α β : Type} {S : Stor τ} {S1 : Stor τ1} {S2 : Stor τ2} {S3 : Stor τ3} {E : Enc τ} {E1 : Enc τ1} {E2 : Enc τ2} {E3 : Enc τ3} {G : Env → Prop} {e' : P → Env} {e1 : P1 → Env} {e2 : P1 → P2 → Env} {e3 : P1 → P2 → P3 → Env} {f : (τ → P → Option Ω) → Option Ω}
/-! ### a < b < c of ints -/
section
variable {op op' : CmpOp} {r r' : R2} {g g' : Int → Int → Bool} {fa : (Int → P1 → Option Ω) → Option Ω} {fb : P1 → (Int → P2 → Option Ω) → Option Ω} {fc : P1 → P2 → (Int → P3 → Option Ω) → Option Ω}
structure CoI (X : Cx) (op : CmpOp) (g : Int → Int → Bool) : Prop where
  ex : ∃ r, OpR X (compareOp op) r ∧ ∀ i j H (Q : VK), Q (.bl (g i j)) H → r (.int i) (.int j) H Q
theorem coLt : CoI X .Lt fun x y => decide (x < y) := ⟨_, op_lt, fun i j _ _ q => ⟨i, j, rfl, rfl, q⟩⟩
theorem coLe : CoI X .LtE fun x y => decide (x ≤ y) := ⟨_, op_le, fun i j _ _ q => ⟨i, j, rfl, rfl, q⟩⟩
theorem chain_run (ha : LX X env a (it eI) e1 fa) (hb : ∀ p1, LX X (e1 p1) b (it eI) (e2 p1) (fb p1)) (hc : ∀ p1 p2, LX X (e2 p1 p2) c (it eI) (e3 p1 p2) (fc p1 p2)) (hs : ∀ p1 p2 p3, Sub (e3 p1 p2 p3) (e2 p1 p2))
    (hr : ∀ i j H (Q : VK), Q (.bl (g i j)) H → r (.int i) (.int j) H Q) (hr' : ∀ i j H (Q : VK), Q (.bl (g' i j)) H → r' (.int i) (.int j) H Q)
    {C : Ck} {F H : Hp} {σs : List (Option V)} {es : Env} {σ : List (Option V)} {k : Bool → P1 × P2 → Option Ω} {ω : Ω} {R : VK} (hK : C.K = X.K) (hl : σs.length = es.length) (h : ER C F H (σs ++ σ) (es ++ env))
    (hk : (fa fun x p1 => fb p1 fun y p2 => if g x y = true then fc p1 p2 fun z _ => k (g' y z) (p1, p2) else k false (p1, p2)) = some ω)
    (q : ∀ b p1 p2 F' H', k b (p1, p2) = some ω → ER C F' H' (σs ++ σ) (es ++ e2 p1 p2) → R (.bl b) H') : tChain r r' (tE X a) (tE X b) (tE X c) σ H R :=
  op2_run (lo_of ha) (fun p1 => lo_of (hb p1)) (fun _ _ => trivial) (fun _ _ => trivial) hK hl h hk fun x p1 y p2 v u F' H' fp fq hk' h' r1 r2 => by
    obtain ⟨_, r1⟩ := r1
    obtain ⟨_, r2⟩ := r2
    cases r1; cases r2
    refine hr x y H' _ ⟨g x y, rfl, ?_⟩
    cases gx : g x y with
    | false =>
      rw [gx, if_neg Bool.false_ne_true] at hk'
      rw [if_neg Bool.false_ne_true]
      exact q false p1 p2 F' H' hk' h'
    | true =>
      rw [gx, if_pos rfl] at hk'
      rw [if_pos rfl]
      refine hc p1 p2 C F' H' σs es σ _ ω _ hK hl h' hk' fun z p3 w F2 H2 hk2 h2 => ?_
      obtain ⟨w', fp, e1, _, r3⟩ := h2.look (i := 0) rfl
      simp at e1; subst e1
      cases r3
      exact hr' y z H2 R (q _ p1 p2 F2 H2 hk2 ((h2.pop).sub ((hs p1 p2 p3).pre es)))
theorem lx_chain (co : CoI X op g) (co' : CoI X op' g') (ha : LX X env a (it eI) e1 fa) (hb : ∀ p1, LX X (e1 p1) b (it eI) (e2 p1) (fb p1)) (hc : ∀ p1 p2, LX X (e2 p1 p2) c (it eI) (e3 p1 p2) (fc p1 p2)) (hs : ∀ p1 p2 p3, Sub (e3 p1 p2 p3) (e2 p1 p2))
    (hm : lastMarks [op, op'] [b, c] = false := by with_unfolding_all rfl) : LX X env (.Compare a [op, op'] [b, c] pos) (it eB) (fun p : P1 × P2 => e2 p.1 p.2) (fun k => fa fun x p1 => fb p1 fun y p2 => if g x y = true then fc p1 p2 fun z _ => k (g' y z) (p1, p2) else k false (p1, p2)) := by
  obtain ⟨r, ho, hr⟩ := co.ex
  obtain ⟨r', ho', hr'⟩ := co'.ex
  exact fun C F H σs es σ k ω Q hK hl h hk q => tE.of X (pe_chain ho ho' (peC X) (peC X) (peC X) hm) (chain_run ha hb hc hs hr hr' hK hl h hk fun b p1 p2 F' H' hk' h' => q b (p1, p2) _ F' H' hk' (h'.pushSh (.bl b)))
theorem lt_chain (co : CoI X op g) (co' : CoI X op' g') (ha : LX X env a (it eI) e1 fa) (hb : ∀ p1, LX X (e1 p1) b (it eI) (e2 p1) (fb p1)) (hc : ∀ p1 p2, LX X (e2 p1 p2) c (it eI) (e3 p1 p2) (fc p1 p2)) (hs : ∀ p1 p2 p3, Sub (e3 p1 p2 p3) (e2 p1 p2))
    (hm : lastMarks [op, op'] [b, c] = false := by with_unfolding_all rfl) : LT X env (.Compare a [op, op'] [b, c] pos) (fun p : P1 × P2 => e2 p.1 p.2) (fun k => fa fun x p1 => fb p1 fun y p2 => if g x y = true then fc p1 p2 fun z _ => k (g' y z) (p1, p2) else k false (p1, p2)) := by
  obtain ⟨r, ho, hr⟩ := co.ex
  obtain ⟨r', ho', hr'⟩ := co'.ex
  exact fun C F H σs es σ k ω Q hK hl h hk q => tT.of X (pt_chain ho ho' (peC X) (peC X) (peC X) hm) (chain_run ha hb hc hs hr hr' hK hl h hk fun b p1 p2 F' H' hk' h' => ⟨b, rfl, q b (p1, p2) F' H' hk' h'⟩)
end
/-! ### all, any of a list of bools -/
theorem RepAll.bools {K : Fg} {F : Hp} : ∀ {vs : List V} {ns : List Bool}, RepAll K F vs (ns.map eB.enc) → vs = ns.map V.bl
  | [], [], _ => rfl
  | [], _ :: _, h => by cases h
  | _ :: _, [], h => by cases h
  | v :: vs, n :: ns, h => by
    cases h with
    | cons h1 h2 =>
      have h1' : Rep K F v (.bool n) := h1
      cases h1'
      rw [RepAll.bools h2]; rfl
section
variable {g : τ → List Bool}
theorem lx_all (hc : X.calm = true) (hv : LVw S (it eB) g) (hm : X.mg "all" = none) (ha : LO X G env a S e' f) (hG : ∀ p, G (e' p)) (hg : Gl X "all" := by rfl) (he : starEach (a :: []) X.env = (false, eval a X.env) :: starEach [] X.env := by rfl) (hpl : (backTo pos (starEach [] X.env)).any (·.1) = false := by rfl) :
    LX X env (.Call (.Name "all" np) [a] [] pos) (it eB) e' (fun k => f fun x p => k ((g x).all id) p) :=
  lx_b1t (E := eB) (g := fun x : τ => (g x).all id) (cr_all hc) hm (by decide +kernel) ha hG (fun K F H fp v x Q hK s r q => by
    obtain ⟨p, vs, fps, rfl, h1, h2⟩ := hv.view s r
    have := h2.zero.2.bools
    subst this
    exact ⟨p, g x, rfl, by rw [← hK]; exact h1, q _ (.bl _)⟩) hg (by decide) (by decide) he hpl
theorem lx_any (hc : X.calm = true) (hv : LVw S (it eB) g) (hm : X.mg "any" = none) (ha : LO X G env a S e' f) (hG : ∀ p, G (e' p)) (hg : Gl X "any" := by rfl) (he : starEach (a :: []) X.env = (false, eval a X.env) :: starEach [] X.env := by rfl) (hpl : (backTo pos (starEach [] X.env)).any (·.1) = false := by rfl) :
    LX X env (.Call (.Name "any" np) [a] [] pos) (it eB) e' (fun k => f fun x p => k ((g x).any id) p) :=
  lx_b1t (E := eB) (g := fun x : τ => (g x).any id) (cr_any hc) hm (by decide +kernel) ha hG (fun K F H fp v x Q hK s r q => by
    obtain ⟨p, vs, fps, rfl, h1, h2⟩ := hv.view s r
    have := h2.zero.2.bools
    subst this
    exact ⟨p, g x, rfl, by rw [← hK]; exact h1, q _ (.bl _)⟩) hg (by decide) (by decide) he hpl
end
/-- isinstance(a, tuple) of data: a tuple is wanted -/
def isTupD : PyData → Bool
  | .tuple _ => true
  | _ => false
theorem lx_isD {f : (PyData → P → Option Ω) → Option Ω} (hm1 : X.mg "isinstance" = none) (hm2 : X.mg "tuple" = none) (ha : LX X env a (it eD) e' f) (hg1 : Gl X "isinstance" := by rfl) (hg2 : Gl X "tuple" := by rfl)
    (hs : starEach [a, .Name "tuple" tp] X.env = (false, eval a X.env) :: starEach [.Name "tuple" tp] X.env := by rfl) (hs2 : starEach [.Name "tuple" tp] X.env = (false, eval (.Name "tuple" tp) X.env) :: starEach [] X.env := by rfl) (hpl : (backTo pos (starEach [.Name "tuple" tp] X.env)).any (·.1) = false := by rfl) :
    LX X env (.Call (.Name "isinstance" np) [a, .Name "tuple" tp] [] pos) (it eB) e' (fun k => f fun x p => ck (isTupD x) (k true p)) :=
  fun C F H σs es σ k ω Q hK hl h hk q => tE.of X (pe_callB call_isi hg1 hm1 (by rfl) (pa_cons (peC X) (pa_cons (pe_bltn (v := .ty "tuple") (u := .type "tuple") hg2 hm2 (by rfl) rfl) pa_nil hs2) hs) (by decide) (by decide) hs hpl) (ha C F H σs es σ _ ω _ hK hl h hk fun x p v F' H' hk' h' => by
    obtain ⟨ht, hk2⟩ := ck_some hk'
    obtain ⟨v', fp, e1, _, r⟩ := h'.look (i := 0) rfl
    simp at e1; subst e1
    have r' : Rep C.K F' v x := r
    cases r' with
    | tup h1 h2 => exact ⟨_, _, _, _, true, rfl, .ty "tuple", sqT_ty (by rw [← hK]; exact same_sqT h'.sF h1), by unfold PySem.W.kitOne; rw [if_pos (by decide)], q true p (.bl true) F' H' hk2 (h'.pop.pushSh (.bl true))⟩
    | _ => cases ht)
/-! ### parts of tuples -/
structure CutP (E : Enc τ) (lo hi : Option Int) (E' : Enc α) (g : τ → α) : Prop where
  is : ∀ x, ∃ ds, E.enc x = .tuple ds ∧ E'.enc (g x) = .tuple (cutL ds lo hi)
theorem RepAll.cutD {K : Fg} {F : Hp} {vs : List V} {ds : List PyData} (lo hi : Option Int) (h : RepAll K F vs ds) : RepAll K F (cutV vs lo hi) (cutL ds lo hi) := by
  have hl := h.length
  unfold cutV cutL
  rw [hl]
  exact (h.drop _).take _
theorem cut_run {lo hi : Option Int} {E' : Enc α} {g : τ → α} (hp : CutP E lo hi E' g) {C : Ck} {F H : Hp} {σ : List (Option V)} {en : Env} {x : τ} {v : V} {Q : VK} (h : ER C F H σ en) (r : Rep C.K F v (E.enc x)) (q : ∀ u F' H', ER C F' H' (some u :: σ) (.st none α (it E') (g x) :: en) → Q u H') : rSlA C.K v lo hi H Q := by
  obtain ⟨ds, e1, e2⟩ := hp.is x
  rw [e1] at r
  obtain ⟨p, vs, rfl, h1, h2⟩ := r.tup_inv
  have hl := h2.length
  refine ⟨p, vs, rfl, same_sqT h.sF h1, fun hw => ?_, fun hw t nt => ?_⟩
  · refine q _ F H (h.pushSh ?_)
    have : cutL ds lo hi = ds := by
      unfold cutL
      rw [← hl, hw.1, hw.2, hl]; simp
    rw [e2, this]
    exact .tup h1 h2
  · refine q (.ref t) (upd F t (.tup (cutV vs lo hi))) _ ((h.newF nt).pushSh ?_)
    rw [e2]
    exact .tup (SqT.of upd_same) ((h2.cutD lo hi).mono (same_new (h.fnone nt)))
theorem lx_cutL {n : Int} {E' : Enc α} {g : τ → α} {f : (τ → P → Option Ω) → Option Ω} {j : Nat} {cp p2 : Pos} (hp : CutP E (some n) none E' g) (ha : LX X env a (it E) e' f) :
    LX X env (.Subscript a (.Slice (some (.Constant (.int n) j cp)) none none p2) pos) (it E') e' (fun k => f fun x p => k (g x) p) :=
  fun C F H σs es σ k ω Q hK hl h hk q => tE.of X (pe_slice sl_tupA (peC X) (po_some pe_int) po_none) (ha C F H σs es σ _ ω _ hK hl h hk fun x p v F' H' hk' h' => by
    obtain ⟨v', fp, e1, _, r⟩ := h'.look (i := 0) rfl
    simp at e1; subst e1
    exact ⟨n, rfl, by rw [← hK]; exact cut_run hp h'.pop r fun u F2 H2 h2 => q _ p u F2 H2 hk' h2⟩)
theorem lx_cutR {n : Int} {E' : Enc α} {g : τ → α} {f : (τ → P → Option Ω) → Option Ω} {j : Nat} {cp p2 : Pos} (hp : CutP E none (some n) E' g) (ha : LX X env a (it E) e' f) :
    LX X env (.Subscript a (.Slice none (some (.Constant (.int n) j cp)) none p2) pos) (it E') e' (fun k => f fun x p => k (g x) p) :=
  fun C F H σs es σ k ω Q hK hl h hk q => tE.of X (pe_slice sl_tupA (peC X) po_none (po_some pe_int)) (ha C F H σs es σ _ ω _ hK hl h hk fun x p v F' H' hk' h' => by
    obtain ⟨v', fp, e1, _, r⟩ := h'.look (i := 0) rfl
    simp at e1; subst e1
    exact ⟨n, rfl, by rw [← hK]; exact cut_run hp h'.pop r fun u F2 H2 h2 => q _ p u F2 H2 hk' h2⟩)
/-- tuples one behind the other -/
structure CatP (E1 : Enc τ1) (E2 : Enc τ2) (E3 : Enc τ3) (g : τ1 → τ2 → τ3) : Prop where
  is : ∀ x y, ∃ ds es, E1.enc x = .tuple ds ∧ E2.enc y = .tuple es ∧ E3.enc (g x y) = .tuple (ds ++ es) ∧ ds.length + es.length ≤ 1000
theorem lx_catT {fa : (τ1 → P1 → Option Ω) → Option Ω} {fb : P1 → (τ2 → P2 → Option Ω) → Option Ω} {g : τ1 → τ2 → τ3} (hp : CatP E1 E2 E3 g) (ha : LX X env a (it E1) e1 fa) (hb : ∀ p1, LX X (e1 p1) b (it E2) (e2 p1) (fb p1)) :
    LX X env (.BinOp a .Add b pos) (it E3) (fun p : P1 × P2 => e2 p.1 p.2) (fun k => fa fun x p1 => fb p1 fun y p2 => k (g x y) (p1, p2)) :=
  fun C F H σs es σ k ω Q hK hl h hk q => tE.of X (pe_op op_catA (peC X) (peC X)) (op2_run (lo_of ha) (fun p1 => lo_of (hb p1)) (fun _ _ => trivial) (fun _ _ => trivial) hK hl h hk
    fun x p1 y p2 v u F' H' fp fq hk' h' r1 r2 => by
      obtain ⟨_, r1⟩ := r1
      obtain ⟨_, r2⟩ := r2
      obtain ⟨ds, ts, e1, e2, e3, hz⟩ := hp.is x y
      rw [e1] at r1
      rw [e2] at r2
      obtain ⟨p, vs, rfl, h1, h2⟩ := r1.tup_inv
      obtain ⟨p', us, rfl, h3, h4⟩ := r2.tup_inv
      have l1 := h2.length
      have l2 := h4.length
      refine ⟨p, p', vs, us, rfl, rfl, by rw [← hK]; exact same_sqT h'.sF h1, by rw [← hK]; exact same_sqT h'.sF h3, Nat.le_of_lt (small1000 (by omega)), fun z => ?_, fun z y0 => ?_, fun z y0 t nt => ?_⟩
      · subst z
        have : ds = [] := List.eq_nil_of_length_eq_zero (by simpa using l1.symm)
        subst this
        refine q (g x y) (p1, p2) _ F' H' hk' (h'.pushSh ?_)
        rw [e3]; exact .tup h3 h4
      · subst y0
        have : ts = [] := List.eq_nil_of_length_eq_zero (by simpa using l2.symm)
        subst this
        refine q (g x y) (p1, p2) _ F' H' hk' (h'.pushSh ?_)
        rw [e3, List.append_nil]; exact .tup h1 h2
      · refine q (g x y) (p1, p2) (.ref t) (upd F' t (.tup (vs ++ us))) _ hk' ((h'.newF nt).pushSh ?_)
        rw [e3]
        exact .tup (SqT.of upd_same) ((h2.app h4).mono (same_new (h'.fnone nt))))
end
/-! ### a if c else b as a test -/
theorem pt_ifT {X : Cx} {c a b : Expr} {pos : Pos} {tc ta tb : TT} (hc : PT X c tc) (ha : PT X a ta) (hb : PT X b tb) : PT X (.IfExp c a b pos) (fun σ H Q => tc σ H fun k H1 => if k = true then ta σ H1 Q else tb σ H1 Q) := by
  refine ⟨fun pins s σ H Q I h => ?_⟩
  rw [PySem.arm_isTrue_IfExp]
  refine wpAny_bind (thn (hc.run pins s σ H _ I h) fun k s1 ⟨H1, I1, q1⟩ => ?_)
  cases k with
  | true => rw [if_pos rfl] at q1 ⊢; exact ha.run pins s1 σ H1 Q I1 q1
  | false => rw [if_neg Bool.false_ne_true] at q1 ⊢; exact hb.run pins s1 σ H1 Q I1 q1
theorem lt_if {X : Cx} {Ω : Type} {env : Env} {c a b : Expr} {pos : Pos} {P1 P2 P3 : Type} {e1 : P1 → Env} {e2 : P1 → P2 → Env} {e3 : P1 → P3 → Env} {fc : (Bool → P1 → Option Ω) → Option Ω} {fa : P1 → (Bool → P2 → Option Ω) → Option Ω} {fb : P1 → (Bool → P3 → Option Ω) → Option Ω} (hc : LT X env c e1 fc) (ha : ∀ p1, LT X (e1 p1) a (e2 p1) (fa p1)) (hb : ∀ p1, LT X (e1 p1) b (e3 p1) (fb p1))
    (hs : ∀ p1 p2, Sub (e2 p1 p2) (e1 p1)) (hs3 : ∀ p1 p3, Sub (e3 p1 p3) (e1 p1)) :
    LT X env (.IfExp c a b pos) e1 (fun k => fc fun x p1 => if x = true then fa p1 fun y _ => k y p1 else fb p1 fun y _ => k y p1) :=
  fun C F H σs es σ k ω Q hK hl hr hk q => tT.of X (pt_ifT (ptC X) (ptC X) (ptC X)) (hc C F H σs es σ _ ω _ hK hl hr hk fun x p1 F' H' hk' h' => by
    cases x with
    | true => rw [if_pos rfl] at hk' ⊢; exact ha p1 C F' H' σs es σ _ ω Q hK hl h' hk' fun y p2 F2 H2 hk2 h2 => q y p1 F2 H2 hk2 (h2.sub ((hs p1 p2).pre es))
    | false => rw [if_neg Bool.false_ne_true] at hk' ⊢; exact hb p1 C F' H' σs es σ _ ω Q hK hl h' hk' fun y p2 F2 H2 hk2 h2 => q y p1 F2 H2 hk2 (h2.sub ((hs3 p1 p2).pre es)))
/-! ### x, y, z = a, b, c -/
section
variable {X : Cx} {R I Ω J : Type} {SR : Stor R} {envR : I → Env} {kr : R → I → Option Ω} {bk ct : Lp Ω} {env : Env} {rest : List Stmt} {envJ : J → Env} {nm nm2 nm3 : Str} {pos : Pos} {a b c : Expr} {P : Type} {e' : P → Env}
theorem lb_par3 {τ1 τ2 τ3 : Type} {S1 : Stor τ1} {S2 : Stor τ2} {S3 : Stor τ3} {f : ((τ1 × τ2 × τ3 × Unit) → P → Option Ω) → Option Ω} {fr : τ1 → τ2 → τ3 → P → (J → Option Ω) → Option Ω} {px py pz pt : Pos} {kt k2 : Nat} {pt2 : Pos} (i j l : Nat) (hN : X.N.Nodup) (hc : X.calm = true) (ha : LA X env [a, b, c] (fun p : τ1 × τ2 × τ3 × Unit => [.st none τ1 S1 p.1, .st none τ2 S2 p.2.1, .st none τ3 S3 p.2.2.1]) e' f)
    (hr : ∀ x y z p, LB X SR envR kr bk ct ((((e' p).set i (.st none τ1 S1 x)).set j (.st none τ2 S2 y)).set l (.st none τ3 S3 z)) rest envJ (fr x y z p))
    (hi : X.N[i]? = some nm := by rfl) (hj : X.N[j]? = some nm2 := by rfl) (hl3 : X.N[l]? = some nm3 := by rfl) (hij : i ≠ j := by decide) (hil : i ≠ l := by decide) (hjl : j ≠ l := by decide) (hx : X.env.scope.names.lookup nm = some .local := by rfl) (hy : X.env.scope.names.lookup nm2 = some .local := by rfl) (hz : X.env.scope.names.lookup nm3 = some .local := by rfl)
    (hli : ∀ p, i < (e' p).length := by exact (fun _ => Nat.lt_of_sub_eq_succ rfl)) (hlj : ∀ p, j < (e' p).length := by exact (fun _ => Nat.lt_of_sub_eq_succ rfl)) (hll : ∀ p, l < (e' p).length := by exact (fun _ => Nat.lt_of_sub_eq_succ rfl))
    (hw : swappedStores [.Tuple [.Name nm px, .Name nm2 py, .Name nm3 pz] kt pt] (.Tuple [a, b, c] k2 pt2) X.env = pure (some [nm, nm2, nm3]) := by rfl)
    (hs : swapsWithSole [.Tuple [.Name nm px, .Name nm2 py, .Name nm3 pz] kt pt] (.Tuple [a, b, c] k2 pt2) pos.line X.env = pure false := by rfl) :
    LB X SR envR kr bk ct env (.Assign [.Tuple [.Name nm px, .Name nm2 py, .Name nm3 pz] kt pt] (.Tuple [a, b, c] k2 pt2) pos :: rest) envJ (fun kn => f fun r p => fr r.1 r.2.1 r.2.2.1 p kn) :=
  fun C F H σs es σ kn ω D hK hl h hk qn qb qc qr => tSs.of X (pss_cons (ps_par3 hc hN hi hj hl3 hij hil hjl hx hy hz (paC X) hw hs) (pssC X)) (ha C F H σs es σ _ ω _ hK hl h hk fun r p vs F' H' hk' hv h' => by
    match vs, hv with
    | [v, u, t], _ =>
      refine ⟨v, u, t, rfl, ?_⟩
      have h2 := ER.asg (σs := some u :: some t :: σs) (es := .st none τ2 S2 r.2.1 :: .st none τ3 S3 r.2.2.1 :: es) (σ := σ) (env := e' p) h' (by simp [hl]) (hli p)
      have h3 := ER.asg (σs := some t :: σs) (es := .st none τ3 S3 r.2.2.1 :: es) (σ := σ.set i (some v)) h2 (by simp [hl]) (by simpa using hlj p)
      have h4 := ER.asg (σs := σs) (es := es) (σ := (σ.set i (some v)).set j (some u)) h3 hl (by simpa using hll p)
      exact hr r.1 r.2.1 r.2.2.1 p C F' H' σs es _ kn ω D hK hl h4 hk' qn qb qc qr)
end
/-! ### what can be shown -/
structure Sh (k m : Nat) (d : PyData) : Prop where
  lay : d.canLay0 = true
  sho : d.showable = true
  lea : d.leavesShort 13 = true
  blk : d.bulk ≤ m
  dep : d.depth ≤ k
theorem Sh.mono {k m k' m' : Nat} {d : PyData} (h : Sh k m d) (hk : k ≤ k') (hm : m ≤ m') : Sh k' m' d := ⟨h.lay, h.sho, h.lea, Nat.le_trans h.blk hm, Nat.le_trans h.dep hk⟩
theorem Sh.ok {k m : Nat} {d : PyData} (h : Sh k m d) (hk : k ≤ 60) (hm : m ≤ 1000000) : showOk d = true := by
  have d3 : d.shown.length ≤ sizeLine := PyData.shown_fits_bulk (B := 13) (by decide) (by decide) h.lea (by
    have := h.blk
    have : (1000000 : Nat) ≤ 2 ^ 20 := by decide
    omega)
  unfold showOk
  rw [h.lay, h.sho, decide_eq_true (Nat.le_trans h.dep hk), decide_eq_true d3]; rfl
theorem Sh.repr {k m : Nat} {d : PyData} (h : Sh k m d) (hk : k ≤ 60 := by decide) (hm : m ≤ 1000000 := by decide) : reprO d = some d.shown := if_pos (h.ok hk hm)
theorem shI {i : Int} (h : i.natAbs < 10 ^ 12) : Sh 0 0 (.int i) := ⟨rfl, by
  simp only [PyData.showable, decide_eq_true_eq]
  by_cases z : i.natAbs = 0
  · rw [z]; decide
  · exact (Nat.log2_lt z).2 (Nat.lt_of_lt_of_le h (by decide +kernel)), by simp only [PyData.leavesShort, decide_eq_true_eq]; exact PyData.shown_int_le h, Nat.le_refl _, Nat.le_refl _⟩
theorem shN : Sh 0 0 .none := ⟨rfl, rfl, rfl, Nat.le_refl _, Nat.le_refl _⟩
theorem shB {b : Bool} : Sh 0 0 (.bool b) := ⟨rfl, rfl, rfl, Nat.le_refl _, Nat.le_refl _⟩
theorem shS {s : Str} (h1 : PyData.strOk s = true) (h2 : (s.cps.toList.all fun c => decide (c < 16 ^ 8)) = true) (h3 : s.cps.size ≤ m) : Sh 0 m (.str s) := ⟨by rw [PyData.canLay0]; exact h1, rfl, by rw [PyData.leavesShort]; exact h2, by rw [PyData.bulk]; exact h3, Nat.le_refl _⟩
theorem sh_all {k m : Nat} : ∀ (ds : List PyData), (∀ d ∈ ds, Sh k m d) → PyData.canLayAll0 ds = true ∧ PyData.showableAll ds = true ∧ PyData.leavesShortAll 13 ds = true ∧ PyData.bulkAll ds ≤ ds.length * (m + 1) ∧ PyData.depthAll ds ≤ k
  | [], _ => ⟨rfl, rfl, rfl, by simp [PyData.bulkAll], by simp [PyData.depthAll]⟩
  | d :: ds, h => by
    obtain ⟨a, b, c, e, f⟩ := sh_all ds fun x hx => h x (List.mem_cons_of_mem _ hx)
    obtain ⟨a', b', c', e', f'⟩ := h d (List.mem_cons_self ..)
    refine ⟨by rw [PyData.canLayAll0, a', a]; rfl, by rw [PyData.showableAll, b', b]; rfl, by rw [PyData.leavesShortAll, c', c]; rfl, ?_, ?_⟩
    · rw [PyData.bulkAll, List.length_cons, Nat.succ_mul]; omega
    · rw [PyData.depthAll]; omega
theorem shL {k m n : Nat} {ds : List PyData} (h : ∀ d ∈ ds, Sh k m d) (hn : ds.length ≤ n) : Sh (k + 1) (n * (m + 1)) (.list ds) := by
  obtain ⟨a, b, c, e, f⟩ := sh_all ds h
  exact ⟨by rw [PyData.canLay0]; exact a, by rw [PyData.showable]; exact b, by rw [PyData.leavesShort]; exact c, by rw [PyData.bulk]; exact Nat.le_trans e (Nat.mul_le_mul_right _ hn), by rw [PyData.depth]; omega⟩
theorem shV {k m n : Nat} {ds : List PyData} (h : ∀ d ∈ ds, Sh k m d) (hn : ds.length ≤ n) : Sh (k + 1) (n * (m + 1)) (.tuple ds) := by
  obtain ⟨a, b, c, e, f⟩ := sh_all ds h
  exact ⟨by rw [PyData.canLay0]; exact a, by rw [PyData.showable]; exact b, by rw [PyData.leavesShort]; exact c, by rw [PyData.bulk]; exact Nat.le_trans e (Nat.mul_le_mul_right _ hn), by rw [PyData.depth]; omega⟩
/-- tuples by their parts -/
structure ShP (k m : Nat) (ds : List PyData) : Prop where
  lay : PyData.canLayAll0 ds = true
  sho : PyData.showableAll ds = true
  lea : PyData.leavesShortAll 13 ds = true
  blk : PyData.bulkAll ds ≤ m
  dep : PyData.depthAll ds ≤ k
theorem shp0 : ShP 0 0 [] := ⟨rfl, rfl, rfl, by simp [PyData.bulkAll], by simp [PyData.depthAll]⟩
theorem shpC {k m k' m' : Nat} {d : PyData} {ds : List PyData} (h : Sh k m d) (r : ShP k' m' ds) : ShP (max k k') (m + 1 + m') (d :: ds) := ⟨by rw [PyData.canLayAll0, h.lay, r.lay]; rfl, by rw [PyData.showableAll, h.sho, r.sho]; rfl, by rw [PyData.leavesShortAll, h.lea, r.lea]; rfl, by
  have := h.blk; have := r.blk
  rw [PyData.bulkAll]; omega, by
  have := h.dep; have := r.dep
  rw [PyData.depthAll]; omega⟩
theorem shT {k m : Nat} {ds : List PyData} (r : ShP k m ds) : Sh (k + 1) m (.tuple ds) := ⟨by rw [PyData.canLay0]; exact r.lay, by rw [PyData.showable]; exact r.sho, by rw [PyData.leavesShort]; exact r.lea, by rw [PyData.bulk]; exact r.blk, by rw [PyData.depth]; have := r.dep; omega⟩
theorem shTL {k m : Nat} {ds : List PyData} (r : ShP k m ds) : Sh (k + 1) m (.list ds) := ⟨by rw [PyData.canLay0]; exact r.lay, by rw [PyData.showable]; exact r.sho, by rw [PyData.leavesShort]; exact r.lea, by rw [PyData.bulk]; exact r.blk, by rw [PyData.depth]; have := r.dep; omega⟩
theorem Sh.shaped {k m : Nat} {d : PyData} (h : Sh k m d) (hk : k ≤ 64 := by decide) : SeqAt.shaped d = true := shaped_of h.lay (Nat.le_trans h.dep hk)
theorem Sh.refl {k m : Nat} {d : PyData} (h : Sh k m d) : PyData.eqv d d = true := PySem.SeqAt.eqv_refl d h.lay
end Z

set_option Elab.async false
set_option linter.all false
set_option maxRecDepth 100000
namespace Z
open PySem PySem.Spec PyProof.Rows L2
/-! ### plain lemmas for many laws -/
theorem asc_iff : ∀ (es : List Int), es.Pairwise (· < ·) ↔ ∀ i (h : i + 1 < es.length), es[i] < es[i+1]
  | [] => by simp
  | [a] => by simp
  | a :: b :: es => by
    rw [List.pairwise_cons, asc_iff (b :: es)]
    constructor
    · rintro ⟨h1, h2⟩ i hi
      cases i with
      | zero => exact h1 b (List.mem_cons_self ..)
      | succ i => exact h2 i (by simpa using hi)
    · intro h
      have h2 : ∀ i (hi : i + 1 < (b :: es).length), (b :: es)[i] < (b :: es)[i+1] := fun i hi => h (i + 1) (by simpa using hi)
      refine ⟨fun c hc => ?_, h2⟩
      have hab : a < b := h 0 (by simp)
      rcases List.mem_cons.1 hc with rfl | hc
      · exact hab
      · have := (List.pairwise_cons.1 ((asc_iff (b :: es)).2 h2)).1 c hc
        omega
section
variable {α β S Ω : Type}
theorem rangeL_cons' {lo hi : Int} (h : lo < hi) : rangeL lo hi = lo :: rangeL (lo + 1) hi := by
  unfold rangeL
  have e : (hi - lo).toNat = (hi - (lo + 1)).toNat + 1 := by omega
  rw [e, List.range_succ_eq_map, List.map_cons, List.map_map]
  congr 1
  · simp
  · apply List.map_congr_left; intro i _; simp only [Function.comp]; omega
theorem rangeL_nil {lo hi : Int} (h : hi ≤ lo) : rangeL lo hi = [] := by
  unfold rangeL
  rw [show (hi - lo).toNat = 0 by omega]; rfl
theorem mem_rng {lo hi x : Int} : x ∈ rangeL lo hi ↔ lo ≤ x ∧ x < hi := by
  unfold rangeL
  simp only [List.mem_map, List.mem_range]
  constructor
  · rintro ⟨i, hi, rfl⟩; omega
  · rintro ⟨a, b⟩; exact ⟨(x - lo).toNat, by omega, by omega⟩
theorem rng_len {lo hi : Int} : (rangeL lo hi).length = (hi - lo).toNat := by simp [rangeL]
theorem rgOk_s {lo hi : Int} (h1 : -1000000000 ≤ lo) (h2 : lo ≤ 1000000000) (h3 : -1000000000 ≤ hi) (h4 : hi ≤ 1000000000) : rgOk lo hi = true := decide_eq_true ⟨by omega, by omega, by omega, by omega⟩
theorem atI_some {xs : List α} {i : Int} (h0 : 0 ≤ i) (h1 : i < xs.length) : atI xs i = some (xs[i.toNat]'(by omega)) := by
  obtain ⟨k, hk, rfl, e⟩ := atI_pos (xs := xs) h0 h1
  rw [e]; simp
theorem atI_neg {xs : List α} (h : xs ≠ []) : atI xs (-(1 : Int)) = some (xs.getLast h) := by
  have hl : 0 < xs.length := List.length_pos_iff.2 h
  unfold atI ixN
  rw [if_neg (by decide), if_pos (by omega)]
  show xs[_]? = _
  rw [List.getLast_eq_getElem, show (-(1 : Int) + (xs.length : Int)).toNat = xs.length - 1 by omega, List.getElem?_eq_getElem]
theorem forO_congr {b b' : α → S → (S → Option Ω) → Option Ω} {k : S → Option Ω} : ∀ (xs : List α) (s : S), (∀ x ∈ xs, ∀ s kc, b x s kc = b' x s kc) → forO xs s b k = forO xs s b' k
  | [], _, _ => rfl
  | x :: xs, s, h => by
    show b x s _ = b' x s _
    rw [h x (List.mem_cons_self ..)]
    congr 1
    funext s'
    exact forO_congr xs s' fun y m => h y (List.mem_cons_of_mem _ m)
theorem compO_congr {b b' : α → S → (Option β → S → Option Ω) → Option Ω} {k : List β → S → Option Ω} : ∀ (xs : List α) (s : S) (acc : List β), (∀ x ∈ xs, ∀ s kc, b x s kc = b' x s kc) → compO xs s b acc k = compO xs s b' acc k
  | [], _, _, _ => rfl
  | x :: xs, s, acc, h => by
    show b x s _ = b' x s _
    rw [h x (List.mem_cons_self ..)]
    congr 1
    funext y s'
    cases y with
    | none => exact compO_congr xs s' acc fun y m => h y (List.mem_cons_of_mem _ m)
    | some y => show ck _ _ = ck _ _; rw [compO_congr xs s' _ fun y m => h y (List.mem_cons_of_mem _ m)]
/-- a walk over the places of a list is a walk over its members -/
theorem forO_ix {xs : List α} {b : Int → S → (S → Option Ω) → Option Ω} {b' : α → S → (S → Option Ω) → Option Ω} {k : S → Option Ω} {s : S} (h : ∀ i (hi : i < xs.length) s kc, b (i : Int) s kc = b' xs[i] s kc) : forO (rangeL 0 (xs.length : Int)) s b k = forO xs s b' k := by
  suffices ∀ (ys : List α) (n : Nat), (∀ i (hi : i < ys.length) s kc, b ((n + i : Nat) : Int) s kc = b' ys[i] s kc) → ∀ s, forO (rangeL (n : Int) ((n + ys.length : Nat) : Int)) s b k = forO ys s b' k by
    have := this xs 0 (fun i hi s kc => by rw [Nat.zero_add]; exact h i hi s kc) s
    simpa using this
  intro ys
  induction ys with
  | nil => intro n _ s; rw [rangeL_nil (by simp)]; rfl
  | cons y ys ih =>
    intro n h s
    rw [rangeL_cons' (by simp only [List.length_cons]; omega)]
    show b (n : Int) s _ = b' y s _
    rw [show (n : Int) = ((n + 0 : Nat) : Int) by omega, h 0 (by simp) s]
    congr 1
    funext s'
    have := ih (n + 1) (fun i hi s kc => by
      have := h (i + 1) (by simpa using hi) s kc
      rw [show n + 1 + i = n + (i + 1) by omega]; simpa using this) s'
    rw [← this, show ((n + 0 : Nat) : Int) + 1 = ((n + 1 : Nat) : Int) by omega, show ((n + (y :: ys).length : Nat) : Int) = ((n + 1 + ys.length : Nat) : Int) by simp only [List.length_cons]; omega]
theorem compO_ix {xs : List α} {b : Int → S → (Option β → S → Option Ω) → Option Ω} {b' : α → S → (Option β → S → Option Ω) → Option Ω} {k : List β → S → Option Ω} {s : S} {acc : List β} (h : ∀ i (hi : i < xs.length) s kc, b (i : Int) s kc = b' xs[i] s kc) : compO (rangeL 0 (xs.length : Int)) s b acc k = compO xs s b' acc k := by
  suffices ∀ (ys : List α) (n : Nat), (∀ i (hi : i < ys.length) s kc, b ((n + i : Nat) : Int) s kc = b' ys[i] s kc) → ∀ s acc, compO (rangeL (n : Int) ((n + ys.length : Nat) : Int)) s b acc k = compO ys s b' acc k by
    have := this xs 0 (fun i hi s kc => by rw [Nat.zero_add]; exact h i hi s kc) s acc
    simpa using this
  intro ys
  induction ys with
  | nil => intro n _ s acc; rw [rangeL_nil (by simp)]; rfl
  | cons y ys ih =>
    intro n h s acc
    rw [rangeL_cons' (by simp only [List.length_cons]; omega)]
    show b (n : Int) s _ = b' y s _
    rw [show (n : Int) = ((n + 0 : Nat) : Int) by omega, h 0 (by simp) s]
    congr 1
    funext z s'
    have e := fun acc => ih (n + 1) (fun i hi s kc => by
      have := h (i + 1) (by simpa using hi) s kc
      rw [show n + 1 + i = n + (i + 1) by omega]; simpa using this) s' acc
    have er : rangeL ((n + 0 : Nat) + 1 : Int) ((n + (y :: ys).length : Nat) : Int) = rangeL ((n + 1 : Nat) : Int) ((n + 1 + ys.length : Nat) : Int) := by
      rw [show ((n + 0 : Nat) : Int) + 1 = ((n + 1 : Nat) : Int) by omega, show ((n + (y :: ys).length : Nat) : Int) = ((n + 1 + ys.length : Nat) : Int) by simp only [List.length_cons]; omega]
    rw [er]
    cases z with
    | none => exact e acc
    | some z => show ck _ _ = ck _ _; rw [e]
theorem enumL_cons (x : α) (xs : List α) : enumL (x :: xs) = (0, x) :: (enumL xs).map fun p => (p.1 + 1, p.2) := by
  unfold enumL
  rw [List.zipIdx_cons]
  simp [List.zipIdx_succ, List.map_map, Function.comp]
theorem enumL_len (xs : List α) : (enumL xs).length = xs.length := by simp [enumL]
theorem mem_enumL {xs : List α} {p : Int × α} : p ∈ enumL xs ↔ ∃ i : Nat, p.1 = i ∧ xs[i]? = some p.2 := by
  unfold enumL
  simp only [List.mem_map, List.mem_zipIdx_iff_getElem?]
  constructor
  · rintro ⟨q, h, rfl⟩; exact ⟨q.2, rfl, h⟩
  · rintro ⟨i, h1, h2⟩; exact ⟨(p.2, i), h2, by rw [← h1]⟩
/-- a list of `rising` tests -/
theorem rise_ok {es : List Int} (hl : es.length ≤ 1000000) : ∃ bs : List Bool, bs.all id = decide (es.Pairwise (· < ·)) ∧ ∀ k : List Bool → Unit → Option Ω,
    compO (rangeL 0 ((es.length : Int) - 1)) () (fun x (_ : Unit) kc => (atI es x).bind fun y => (atI es (x + 1)).bind fun z => kc (some (decide (y < z))) ()) [] k = k bs () := by
  refine ⟨(rangeL 0 ((es.length : Int) - 1)).map fun i => decide (es.getD i.toNat 0 < es.getD (i.toNat + 1) 0), ?_, fun k => ?_⟩
  · rw [Bool.eq_iff_iff, List.all_eq_true, decide_eq_true_eq, asc_iff]
    simp only [List.mem_map, mem_rng, id]
    constructor
    · intro h i hi
      have := h _ ⟨(i : Int), ⟨by omega, by omega⟩, rfl⟩
      rw [decide_eq_true_eq] at this
      simpa [List.getD_eq_getElem?_getD, List.getElem?_eq_getElem hi, List.getElem?_eq_getElem (show i < es.length by omega)] using this
    · rintro h _ ⟨i, ⟨h0, h1⟩, rfl⟩
      have := h i.toNat (by omega)
      rw [decide_eq_true_eq]
      simpa [List.getD_eq_getElem?_getD, List.getElem?_eq_getElem (show i.toNat + 1 < es.length by omega), List.getElem?_eq_getElem (show i.toNat < es.length by omega)] using this
  · refine (compO_map (fun i : Int => decide (es.getD i.toNat 0 < es.getD (i.toNat + 1) 0)) () _ [] (by rw [rng_len]; show _ ≤ 16777216; simp only [List.length_nil]; omega) fun x mx kc => ?_).trans (by rw [List.nil_append])
    obtain ⟨h0, h1⟩ := mem_rng.1 mx
    rw [atI_some h0 (by omega), Option.bind_some, atI_some (by omega) (by omega), Option.bind_some]
    simp only [List.getD_eq_getElem?_getD, List.getElem?_eq_getElem (show x.toNat < es.length by omega), List.getElem?_eq_getElem (show x.toNat + 1 < es.length by omega), Option.getD_some, show (x + 1).toNat = x.toNat + 1 by omega]
theorem usort_eq_iff {es : List Int} : es = usort es ↔ es.Pairwise (· < ·) := ⟨fun e => by rw [e]; exact usort_pw es, fun p => usort_is p fun _ => Iff.rfl⟩
theorem usort_len (xs : List Int) : (usort xs).length ≤ xs.length := by
  induction xs with
  | nil => simp [usort]
  | cons x xs ih =>
    simp only [usort]
    split
    · simp; omega
    · have : ((usort xs).filter (· < x)).length + ((usort xs).filter (x < ·)).length ≤ (usort xs).length := by
        generalize usort xs = ys
        clear ih
        induction ys with
        | nil => simp
        | cons y ys ih =>
          simp only [List.filter_cons, List.length_cons]
          by_cases c : y < x
          · have d : ¬ x < y := by omega
            simp [c, d]; omega
          · by_cases d : x < y
            · simp [c, d]; omega
            · simp [c, d]; omega
      simp; omega
/-! ### all sets, one after the other -/
def subs (xs : List α) : List (List α) := xs.foldl (fun s k => s ++ s.map (· ++ [k])) [[]]
theorem subs_mem' : ∀ (xs : List α) (acc : List (List α)) (row : List α), row ∈ xs.foldl (fun s k => s ++ s.map (· ++ [k])) acc ↔ ∃ a ∈ acc, ∃ s, List.Sublist s xs ∧ row = a ++ s
  | [], acc, row => by
    constructor
    · intro h; exact ⟨row, h, [], List.Sublist.refl _, by simp⟩
    · rintro ⟨a, ha, s, hs, rfl⟩
      rw [List.sublist_nil.1 hs, List.append_nil]; exact ha
  | x :: xs, acc, row => by
    rw [List.foldl_cons, subs_mem' xs]
    constructor
    · rintro ⟨a, ha, s, hs, rfl⟩
      rcases List.mem_append.1 ha with ha | ha
      · exact ⟨a, ha, s, hs.cons x, rfl⟩
      · obtain ⟨b, hb, rfl⟩ := List.mem_map.1 ha
        exact ⟨b, hb, x :: s, hs.cons_cons x, by simp⟩
    · rintro ⟨a, ha, s, hs, rfl⟩
      cases hs with
      | cons _ h => exact ⟨a, List.mem_append_left _ ha, _, h, rfl⟩
      | cons_cons _ h => exact ⟨a ++ [x], List.mem_append_right _ (List.mem_map.2 ⟨a, ha, rfl⟩), _, h, by simp⟩
theorem mem_subs {xs row : List α} : row ∈ subs xs ↔ List.Sublist row xs := by
  unfold subs
  rw [subs_mem']
  simp
theorem subs_len' : ∀ (xs : List α) (acc : List (List α)), (xs.foldl (fun s k => s ++ s.map (· ++ [k])) acc).length = acc.length * 2 ^ xs.length
  | [], acc => by simp
  | x :: xs, acc => by
    rw [List.foldl_cons, subs_len' xs, List.length_append, List.length_map, List.length_cons, Nat.pow_succ, ← Nat.two_mul, Nat.mul_comm 2, Nat.mul_assoc, Nat.mul_comm 2]
theorem subs_len (xs : List α) : (subs xs).length = 2 ^ xs.length := by
  unfold subs; rw [subs_len']; simp
/-- the walk that builds them -/
theorem sets_walk {k : List (List α) → Option Ω} : ∀ (xs : List α) (acc : List (List α)), (∀ a ∈ acc, a.length + xs.length ≤ 1000) → acc.length * 2 ^ xs.length ≤ 1000000 →
    forO xs acc (fun x t kc => compO t () (fun row (_ : Unit) kc2 => ck (decide (row.length + [x].length ≤ SZ)) (kc2 (some (row ++ [x])) ())) [] fun ys (_ : Unit) => ck (decide (t.length + ys.length ≤ SZ)) (kc (t ++ ys))) k = k (xs.foldl (fun s k => s ++ s.map (· ++ [k])) acc)
  | [], acc, _, _ => rfl
  | x :: xs, acc, h1, h2 => by
    rw [List.length_cons, Nat.pow_succ] at h2
    have hp : 1 ≤ 2 ^ xs.length := Nat.one_le_two_pow
    have hacc : acc.length * 2 ≤ 1000000 := by
      have : acc.length * 2 * 1 ≤ acc.length * 2 * 2 ^ xs.length := Nat.mul_le_mul_left _ hp
      rw [Nat.mul_comm (2 ^ xs.length), ← Nat.mul_assoc] at h2
      omega
    show compO acc () _ [] _ = _
    have hS : (1000000 : Nat) ≤ SZ := by decide
    rw [compO_map (fun row : List α => row ++ [x]) () acc [] (by simp; omega) fun row m kc => by
      have := h1 row m
      simp only [List.length_cons, List.length_nil] at this ⊢
      rw [decide_eq_true (by omega), ck_true], List.nil_append, List.length_map, decide_eq_true (by omega), ck_true]
    refine sets_walk xs _ (fun a ha => ?_) ?_
    · rcases List.mem_append.1 ha with ha | ha
      · have := h1 a ha; simp at this; omega
      · obtain ⟨b, hb, rfl⟩ := List.mem_map.1 ha
        have := h1 b hb; simp at this ⊢; omega
    · rw [List.length_append, List.length_map, ← Nat.two_mul, Nat.mul_comm 2, Nat.mul_assoc, Nat.mul_comm 2]; exact h2
end
/-! ### least, greatest -/
theorem minI_of {l : List Int} {m : Int} (hm : m ∈ l) (h : ∀ y ∈ l, m ≤ y) : minI l = some m := by
  cases l with
  | nil => cases hm
  | cons x xs =>
    show some (xs.foldl min x) = _
    congr 1
    exact (minI_is rfl hm h).symm
theorem maxI_of {l : List Int} {m : Int} (hm : m ∈ l) (h : ∀ y ∈ l, y ≤ m) : maxI l = some m := by
  cases l with
  | nil => cases hm
  | cons x xs =>
    show some (xs.foldl max x) = _
    congr 1
    exact (maxI_is rfl hm h).symm
theorem minI_some {l : List Int} (h : l ≠ []) : ∃ m, minI l = some m ∧ m ∈ l ∧ ∀ y ∈ l, m ≤ y := by
  cases l with
  | nil => exact absurd rfl h
  | cons x xs =>
    refine ⟨xs.foldl min x, rfl, ?_, fun y m => ?_⟩
    · rcases foldl_min_mem xs x with e | e
      · rw [e]; exact List.mem_cons_self ..
      · exact List.mem_cons_of_mem _ e
    · rcases List.mem_cons.1 m with rfl | m
      · exact (foldl_min_le xs y).1
      · exact (foldl_min_le xs x).2 y m
theorem maxI_some {l : List Int} (h : l ≠ []) : ∃ m, maxI l = some m ∧ m ∈ l ∧ ∀ y ∈ l, y ≤ m := by
  cases l with
  | nil => exact absurd rfl h
  | cons x xs =>
    refine ⟨xs.foldl max x, rfl, ?_, fun y m => ?_⟩
    · rcases foldl_max_mem xs x with e | e
      · rw [e]; exact List.mem_cons_self ..
      · exact List.mem_cons_of_mem _ e
    · rcases List.mem_cons.1 m with rfl | m
      · exact (foldl_max_le xs y).1
      · exact (foldl_max_le xs x).2 y m
theorem lpp_tot {x y : Int × Int} (h : lpp x y = false) (g : lpp y x = false) : x = y := by
  rw [lpp_no] at h g
  exact Prod.ext (by omega) (by omega)
theorem minB_some {l : List (Int × Int)} (h : l ≠ []) : ∃ m, minB lpp l = some m ∧ m ∈ l ∧ ∀ y ∈ l, lpp y m = false := by
  suffices ∀ (xs : List (Int × Int)) (x : Int × Int), ∃ m, xs.foldl (fun a y => if lpp y a = true then y else a) x = m ∧ m ∈ x :: xs ∧ ∀ y ∈ x :: xs, lpp y m = false by
    cases l with
    | nil => exact absurd rfl h
    | cons x xs =>
      obtain ⟨m, e, a, b⟩ := this xs x
      exact ⟨m, congrArg some e, a, b⟩
  intro xs
  induction xs with
  | nil => intro x; exact ⟨x, rfl, List.mem_cons_self .., fun y m => by simp at m; subst m; rw [lpp_no]; omega⟩
  | cons z xs ih =>
    intro x
    rw [List.foldl_cons]
    obtain ⟨m, e, a, b⟩ := ih (if lpp z x = true then z else x)
    refine ⟨m, e, ?_, fun y hy => ?_⟩
    · rcases List.mem_cons.1 a with rfl | a
      · split
        · simp
        · simp
      · simp [a]
    · have bx := b _ (List.mem_cons_self ..)
      rcases List.mem_cons.1 hy with rfl | hy
      · by_cases c : lpp z y = true
        · rw [if_pos c] at bx
          rw [lpp_no] at bx ⊢
          rw [lpp_iff] at c
          omega
        · rw [if_neg c] at bx; exact bx
      · rcases List.mem_cons.1 hy with rfl | hy
        · by_cases c : lpp y x = true
          · rw [if_pos c] at bx; exact bx
          · rw [if_neg c] at bx
            have c' : lpp y x = false := by simpa using c
            rw [lpp_no] at bx c' ⊢
            omega
        · exact b y (List.mem_cons_of_mem _ hy)
/-! ### slices -/
theorem cutL_nat {α : Type} {xs : List α} {i j : Nat} (hj : j ≤ xs.length) : cutL xs (some (i : Int)) (some (j : Int)) = (xs.drop i).take (j - i) := by
  unfold cutL
  rw [HT.sIx_nat, HT.sIx_nat, Nat.min_eq_left hj]
  by_cases h : i ≤ xs.length
  · rw [Nat.min_eq_left h]
  · rw [Nat.min_eq_right (by omega), List.drop_of_length_le (Nat.le_refl _), List.drop_of_length_le (by omega)]
    simp
theorem cutL_from {α : Type} {xs : List α} {i : Nat} : cutL xs (some (i : Int)) none = xs.drop i := by
  unfold cutL
  rw [HT.sIx_nat, HT.sIx_none]
  by_cases h : i ≤ xs.length
  · rw [Nat.min_eq_left h, List.take_of_length_le (by simp)]
  · rw [Nat.min_eq_right (by omega), List.drop_of_length_le (Nat.le_refl _), List.drop_of_length_le (by omega)]; simp
theorem cutL_to {α : Type} {xs : List α} {j : Nat} : cutL xs none (some (j : Int)) = xs.take j := by
  unfold cutL
  rw [HT.sIx_nat, HT.sIx_none, List.drop_zero, Nat.sub_zero]
  by_cases h : j ≤ xs.length
  · rw [Nat.min_eq_left h]
  · rw [Nat.min_eq_right (by omega), List.take_of_length_le (Nat.le_refl _), List.take_of_length_le (by omega)]
theorem cutL_last {α : Type} (xs : List α) : cutL xs (some (-(1 : Int))) none = xs.drop (xs.length - 1) := by
  have e : HT.sIx xs.length 0 (some (-(1 : Int))) = xs.length - 1 := by
    show (if (-(1 : Int)) < 0 then (-(1 : Int) + (xs.length : Int)).toNat else min (-(1 : Int)).toNat xs.length) = _
    rw [if_pos (by decide)]; omega
  unfold cutL
  rw [e, HT.sIx_none, List.take_of_length_le (by simp)]
theorem sum_sub : ∀ {xs ys : List Int}, List.Sublist xs ys → (∀ y ∈ ys, 0 ≤ y) → 0 ≤ xs.sum ∧ xs.sum ≤ ys.sum := by
  intro xs ys h
  induction h with
  | slnil => simp
  | cons a h ih => intro hy; have := ih fun y m => hy y (List.mem_cons_of_mem _ m); have := hy a (List.mem_cons_self ..); simp only [List.sum_cons]; omega
  | cons_cons a h ih => intro hy; have := ih fun y m => hy y (List.mem_cons_of_mem _ m); have := hy a (List.mem_cons_self ..); simp only [List.sum_cons]; omega
theorem cutL_sub {α : Type} (xs : List α) (a b : Option Int) : List.Sublist (cutL xs a b) xs := by
  unfold cutL
  exact (List.take_sublist _ _).trans (List.drop_sublist _ _)
theorem sum_le_len {xs : List Int} {m : Int} (h : ∀ x ∈ xs, x ≤ m) : xs.sum ≤ m * xs.length := by
  induction xs with
  | nil => simp
  | cons x xs ih =>
    have := ih fun y hy => h y (List.mem_cons_of_mem _ hy)
    have := h x (List.mem_cons_self ..)
    rw [List.sum_cons, List.length_cons]
    have e : m * ((xs.length + 1 : Nat) : Int) = m * xs.length + m := by
      rw [show ((xs.length + 1 : Nat) : Int) = (xs.length : Int) + 1 by omega, Int.mul_add, Int.mul_one]
    omega
end Z
namespace Z
open PySem PySem.Spec PyProof.Rows L2
section
variable {α β S Ω : Type}
/-- a walk that ends somehow -/
theorem forO_ex {Pr : Ω → Prop} (Inv : S → Prop) {b : α → S → (S → Option Ω) → Option Ω} {k : S → Option Ω} : ∀ {xs : List α} {s : S}, Inv s →
    (∀ s x, x ∈ xs → Inv s → ∀ kc : S → Option Ω, (∀ s', Inv s' → ∃ r, kc s' = some r ∧ Pr r) → ∃ r, b x s kc = some r ∧ Pr r) → (∀ s, Inv s → ∃ r, k s = some r ∧ Pr r) → ∃ r, forO xs s b k = some r ∧ Pr r
  | [], s, h0, _, he => he s h0
  | x :: xs, s, h0, hs, he => hs s x (List.mem_cons_self ..) h0 _ fun s' h' => forO_ex Inv h' (fun s y m => hs s y (List.mem_cons_of_mem _ m)) he
theorem ite_wp {c : Prop} [Decidable c] {x y : Option Ω} {ω : Ω} (h1 : c → x = some ω) (h2 : ¬ c → y = some ω) : (if c then x else y) = some ω := by
  split
  · exact h1 ‹_›
  · exact h2 ‹_›
theorem ite_d {c : Prop} [Decidable c] {Γ : Type} {x y : Γ} : (if (decide c) = true then x else y) = if c then x else y := by
  by_cases h : c
  · rw [if_pos h, if_pos (decide_eq_true h)]
  · rw [if_neg h, if_neg (by simpa using h)]
theorem ite_nd {c : Prop} [Decidable c] {Γ : Type} {x y : Γ} : (if (!decide c) = true then x else y) = if c then y else x := by
  by_cases h : c
  · rw [if_pos h, decide_eq_true h, if_neg (by decide)]
  · rw [if_neg h, decide_eq_false h, if_pos (by decide)]
theorem ite_t {Γ : Type} {x y : Γ} : (if (true : Bool) = true then x else y) = x := rfl
theorem ite_f {Γ : Type} {x y : Γ} : (if (false : Bool) = true then x else y) = y := rfl
theorem ite_nt {Γ : Type} {x y : Γ} : (if (!(true : Bool)) = true then x else y) = y := rfl
theorem ite_nf {Γ : Type} {x y : Γ} : (if (!(false : Bool)) = true then x else y) = x := rfl
theorem len_pos_d {xs : List α} : (decide ((0 : Int) < (xs.length : Int))) = !xs.isEmpty := by
  cases xs <;> simp
theorem ck_pos {b : Bool} {k : Option Ω} (h : b = true) : ck b k = k := by rw [h]; rfl
end
end Z
namespace Z
open PySem PySem.Spec PyProof.Rows L2
section
variable {α β S Ω : Type}
theorem forO_exN {Pr : Ω → Prop} (Inv : Nat → S → Prop) {b : α → S → (S → Option Ω) → Option Ω} {k : S → Option Ω} : ∀ (xs : List α) (n : Nat) (s : S), Inv n s →
    (∀ i s x, xs[i]? = some x → Inv (n + i) s → ∀ kc : S → Option Ω, (∀ s', Inv (n + i + 1) s' → ∃ r, kc s' = some r ∧ Pr r) → ∃ r, b x s kc = some r ∧ Pr r) → (∀ s, Inv (n + xs.length) s → ∃ r, k s = some r ∧ Pr r) → ∃ r, forO xs s b k = some r ∧ Pr r
  | [], n, s, h0, _, he => he s h0
  | x :: xs, n, s, h0, hs, he => hs 0 s x rfl h0 _ fun s' h' => forO_exN Inv xs (n + 1) s' h'
      (fun i s y e h kc hk => hs (i + 1) s y e (by rw [show n + (i + 1) = n + 1 + i by omega]; exact h) kc fun s' h' => hk s' (by rw [show n + 1 + i + 1 = n + (i + 1) + 1 by omega]; exact h'))
      fun s h => he s (by rw [show n + (x :: xs).length = n + 1 + xs.length by simp; omega]; exact h)
theorem enumL_rng {xs : List α} (d : α) : enumL xs = (rangeL 0 (xs.length : Int)).map fun i => (i, xs.getD i.toNat d) := by
  rw [rangeL_nat, List.map_map]
  refine List.ext_getElem? fun i => ?_
  rw [enumL_get, List.getElem?_map]
  by_cases h : i < xs.length
  · rw [List.getElem?_range h]; simp [List.getElem?_eq_getElem h, List.getD_eq_getElem?_getD]
  · rw [List.getElem?_eq_none (by omega), List.getElem?_eq_none (by simp; omega)]; rfl
end
end Z
namespace Z
open PySem PySem.Spec PyProof.Rows L2
section
variable {α β S Ω : Type}
/-- a walk that goes through and leaves something -/
theorem forO_run (Inv : Nat → S → Prop) {b : α → S → (S → Option Ω) → Option Ω} : ∀ (xs : List α) (n : Nat) (s : S), Inv n s → (∀ i s x, xs[i]? = some x → Inv (n + i) s → ∃ s', Inv (n + i + 1) s' ∧ ∀ kc, b x s kc = kc s') → ∃ s', Inv (n + xs.length) s' ∧ ∀ k, forO xs s b k = k s'
  | [], n, s, h, _ => ⟨s, h, fun _ => rfl⟩
  | x :: xs, n, s, h, hs => by
    obtain ⟨s1, h1, e1⟩ := hs 0 s x rfl h
    obtain ⟨s2, h2, e2⟩ := forO_run Inv xs (n + 1) s1 h1 fun i s y hy hi => by
      have := hs (i + 1) s y hy (by rw [show n + (i + 1) = n + 1 + i by omega]; exact hi)
      rwa [show n + (i + 1) + 1 = n + 1 + i + 1 by omega] at this
    exact ⟨s2, by rw [show n + (x :: xs).length = n + 1 + xs.length by simp; omega]; exact h2, fun k => (e1 _).trans (e2 k)⟩
/-- a walk that sifts into a list -/
theorem forO_filt (f : α → Option β) {b : α → List β → (List β → Option Ω) → Option Ω} {k : List β → Option Ω} : ∀ (xs : List α) (acc : List β), acc.length + xs.length ≤ SZ → (∀ x ∈ xs, ∀ t kc, t.length < SZ → b x t kc = kc (t ++ (f x).toList)) → forO xs acc b k = k (acc ++ xs.filterMap f)
  | [], acc, _, _ => by simp [forO]
  | x :: xs, acc, hl, h => by
    rw [List.length_cons] at hl
    show b x acc _ = _
    rw [h x (List.mem_cons_self ..) acc _ (by omega), List.filterMap_cons]
    cases f x with
    | none =>
      rw [Option.toList_none, List.append_nil]
      exact forO_filt f xs acc (by omega) fun y m => h y (List.mem_cons_of_mem _ m)
    | some y =>
      rw [Option.toList_some, forO_filt f xs (acc ++ [y]) (by simp; omega) fun y m => h y (List.mem_cons_of_mem _ m)]
      simp
/-- a while that ends: by a measure -/
theorem whileO_run (Inv : S → Prop) (ms : S → Nat) (done : S → Prop) {b : S → (S → Option Ω) → Option Ω} (hstep : ∀ s, Inv s → ¬ done s → ∃ s', Inv s' ∧ ms s' < ms s ∧ ∀ kc, b s kc = kc s') : ∀ (fu : Nat) (s : S), ms s < fu → Inv s → ∃ s', Inv s' ∧ done s' ∧ ∃ fu', whileO fu s b = whileO (fu' + 1) s' b
  | 0, s, h, _ => absurd h (Nat.not_lt_zero _)
  | fu + 1, s, h, hi => by
    by_cases hd : done s
    · exact ⟨s, hi, hd, fu, rfl⟩
    · obtain ⟨s1, i1, m1, e1⟩ := hstep s hi hd
      obtain ⟨s2, i2, d2, f2, e2⟩ := whileO_run Inv ms done hstep fu s1 (by omega) i1
      exact ⟨s2, i2, d2, f2, (e1 _).trans e2⟩
end
end Z
namespace Z
open PySem PySem.Spec PyProof.Rows L2
/-! ### words of faults -/
def wd (s : Str) : PyData := .tuple [.str s]
def wd1 (s : Str) (k : Int) : PyData := .tuple [.str s, .int k]
def wd2 (s : Str) (i j : Int) : PyData := .tuple [.str s, .int i, .int j]
theorem shaped_wd {s : Str} (h : PyData.strOk s = true) : SeqAt.shaped (wd s) = true := by
  simp [SeqAt.shaped, wd, PyData.canLay0, PyData.canLayAll0, PyData.depth, PyData.depthAll, h]
theorem shaped_wd1 {s : Str} {k : Int} (h : PyData.strOk s = true) : SeqAt.shaped (wd1 s k) = true := by
  simp [SeqAt.shaped, wd1, PyData.canLay0, PyData.canLayAll0, PyData.depth, PyData.depthAll, h]
theorem shaped_wd2 {s : Str} {i j : Int} (h : PyData.strOk s = true) : SeqAt.shaped (wd2 s i j) = true := by
  simp [SeqAt.shaped, wd2, PyData.canLay0, PyData.canLayAll0, PyData.depth, PyData.depthAll, h]
theorem shaped_none : SeqAt.shaped PyData.none = true := by decide
theorem shaped_eqv {d : PyData} (h : SeqAt.shaped d = true) : PyData.eqv d d = true := PySem.SeqAt.eqv_refl d (SeqAt.canLay_of_shaped h)
/-- lists of ints that are shown -/
def Bnd (n : Nat) (xs : List Int) : Prop := xs.length ≤ n ∧ ∀ x ∈ xs, x.natAbs < 10 ^ 12
theorem shInts {n : Nat} {xs : List Int} (h : Bnd n xs) : Sh 1 (n * 1) ((eL eI).enc xs) := by
  have := shL (k := 0) (m := 0) (n := n) (ds := xs.map eI.enc) (fun d m => by obtain ⟨x, mx, rfl⟩ := List.mem_map.1 m; exact shI (h.2 x mx)) (by simpa using h.1)
  exact this
theorem rangeL_asc {lo hi : Int} : (rangeL lo hi).Pairwise (· < ·) := by
  unfold rangeL
  rw [List.pairwise_map]
  exact List.pairwise_lt_range.imp fun {a b} h => by omega
theorem asc_sublist {hi : Int} : ∀ (n : Nat) (lo : Int) (row : List Int), (hi - lo).toNat = n → row.Pairwise (· < ·) → (∀ x ∈ row, lo ≤ x ∧ x < hi) → List.Sublist row (rangeL lo hi)
  | _, lo, [], _, _, _ => List.nil_sublist _
  | 0, lo, x :: row, hn, _, h => by have := h x (List.mem_cons_self ..); omega
  | n + 1, lo, x :: row, hn, p, h => by
    have hx := h x (List.mem_cons_self ..)
    rw [rangeL_cons' (by omega)]
    obtain ⟨p1, p2⟩ := List.pairwise_cons.1 p
    by_cases e : x = lo
    · subst e
      exact List.Sublist.cons_cons _ (asc_sublist n (x + 1) row (by omega) p2 fun y m => ⟨by have := p1 y m; omega, (h y (List.mem_cons_of_mem _ m)).2⟩)
    · refine List.Sublist.cons _ (asc_sublist n (lo + 1) (x :: row) (by omega) p fun y m => ⟨?_, (h y m).2⟩)
      rcases List.mem_cons.1 m with rfl | m
      · omega
      · have := p1 y m; omega
end Z

set_option Elab.async false
set_option linter.all false
set_option maxRecDepth 100000
namespace Z
open PySem PySem.Spec PyProof.Rows L2
section
variable {X : Cx} {Ω : Type} {env : Env} {nm : Str} {pos np rp p2 : Pos} {a b e : Expr} {P P1 P2 : Type} {e' : P → Env} {e1 : P1 → Env} {e2 : P1 → P2 → Env}
/-- a whole number of the top -/
theorem lx_gI {n : Int} (h : ∃ t, X.mg nm = some (.int n t)) (hg : Gl X nm := by rfl) (hd : (nm == ("__debug__" : Str)) = false := by decide) : LX X env (.Name nm pos) (it eI) (fun _ : Unit => env) (fun (k : Int → Unit → Option Ω) => k n ()) := by
  obtain ⟨t, h⟩ := h
  exact lx_c (pe_glob (v := .int n) hg h ⟨t, rfl⟩ hd) fun _ => .int n
/-- list(range(n)) -/
theorem rgV_eq (lo hi : Int) : rgV lo hi = (rangeL lo hi).map V.int := by
  unfold rgV rangeL
  rw [List.map_map]; rfl
theorem lx_listrg1 {f : (Int → P → Option Ω) → Option Ω} (hc : X.calm = true) (hm : X.mg "list" = none) (hm2 : X.mg "range" = none) (ha : LX X env a (it eI) e' f) (hg : Gl X "list" := by rfl) (hg2 : Gl X "range" := by rfl)
    (na : starEach [a] X.env = (false, eval a X.env) :: starEach [] X.env := by rfl) (nb : starEach [Expr.Call (.Name "range" rp) [a] [] p2] X.env = (false, eval (Expr.Call (.Name "range" rp) [a] [] p2) X.env) :: starEach [] X.env := by rfl) :
    LX X env (.Call (.Name "list" np) [.Call (.Name "range" rp) [a] [] p2] [] pos) (ls (it eI)) e' (fun k => f fun n p => ck (decide (-(2 ^ 62) ≤ n ∧ n ≤ 16777216)) (k (rangeL 0 n) p)) :=
  fun C F H σs es σ k ω Q hK hl h hk q => tE.of X (pe_listRg hc hg hm (prg_1 hg2 hm2 (peC X) na) nb) (lo_run (lo_of ha) (fun _ => trivial) hK hl h hk fun n p v F' H' fp hk' h' rr => by
    obtain ⟨hc, hk2⟩ := ck_some hk'
    obtain ⟨_, rr⟩ := rr
    cases rr
    have hc := of_decide_eq_true hc
    refine ⟨n, rfl, ?_, fun t nt => ?_⟩
    · exact ⟨by omega, by omega, by omega, by omega, by omega⟩
    · rw [rgV_eq]
      exact q _ p _ F' _ hk2 (h'.newOw nt ⟨t, _, [], rfl, upd_same, (RepAll.ofInts (rangeL 0 n)).zero, rfl⟩))
/-- range(a, b, -1) -/
def downL (lo hi : Int) : List Int := (List.range (lo - hi).toNat).map fun i : Nat => lo - (i : Nat)
theorem yields_down {C : Ck} {lo hi : Int} : Yields C (it eI) (Itc lo (-1) (lo - hi).toNat) (downL lo hi) [] [] := ⟨rfl, fun i F H σ2 σb e2 eb hl2 h2 => by
  refine ⟨fun y hy => ?_, fun hn => ?_⟩
  · unfold downL at hy
    rw [List.getElem?_map] at hy
    by_cases hi : i < (lo - hi).toNat
    · rw [List.getElem?_range hi] at hy
      simp at hy; subst hy
      refine ⟨hi, fun v H' hy' => ⟨F, ?_⟩⟩
      obtain ⟨e1, e2⟩ := hy'
      rw [e1, e2, show lo + (i : Int) * (-1) = lo - i by omega]
      exact h2.pushSh (.int _)
    · rw [List.getElem?_eq_none (by simpa using hi)] at hy; cases hy
  · unfold downL at hn
    rw [List.getElem?_eq_none_iff] at hn
    simp at hn
    show (lo - hi).toNat ≤ i
    omega⟩
theorem li_down {tg : Expr} {f1 : (Int → P1 → Option Ω) → Option Ω} {f2 : P1 → (Int → P2 → Option Ω) → Option Ω} {p u1 u2 : Pos} {j : Nat} (hg : Gl X "range") (hm : X.mg "range" = none) (h1 : LX X env a (it eI) e1 f1) (h2 : ∀ p1, LX X (e1 p1) b (it eI) (e2 p1) (f2 p1))
    (hs : starEach [a, b, .UnaryOp .USub (.Constant (.int 1) j u1) u2] X.env = (false, eval a X.env) :: starEach [b, .UnaryOp .USub (.Constant (.int 1) j u1) u2] X.env := by rfl) (hs2 : starEach [b, .UnaryOp .USub (.Constant (.int 1) j u1) u2] X.env = (false, eval b X.env) :: starEach [.UnaryOp .USub (.Constant (.int 1) j u1) u2] X.env := by rfl)
    (hs3 : starEach [.UnaryOp .USub (.Constant (.int 1) j u1) u2] X.env = (false, eval (.UnaryOp .USub (.Constant (.int 1) j u1) u2) X.env) :: starEach [] X.env := by rfl) (hpl : (backTo pos (starEach [b, .UnaryOp .USub (.Constant (.int 1) j u1) u2] X.env)).any (·.1) = false := by rfl) :
    LI X env tg (.Call (.Name "range" p) [a, b, .UnaryOp .USub (.Constant (.int 1) j u1) u2] [] pos) (it eI) (fun q : P1 × P2 => e2 q.1 q.2) (fun k => f1 fun x p1 => f2 p1 fun y p2 => ck (rgOk x y) (k (downL x y) (p1, p2))) :=
  fun C F H σs es σ k ω R hK hl hr hk q => tI.of X (pi_range3 hg hm (pa_cons (peC X) (pa_cons (peC X) (pa_cons (pe_un un_neg pe_int) pa_nil hs3) hs2) hs) hs hpl) (op2_run (lo_of h1) (fun p1 => lo_of (h2 p1)) (fun _ _ => trivial) (fun _ _ => trivial) hK hl hr hk
    fun x p1 y p2 v u F' H' fp fq hk' h' r1 r2 => by
      obtain ⟨hc, hk2⟩ := ck_some hk'
      obtain ⟨_, r1⟩ := r1
      obtain ⟨_, r2⟩ := r2
      cases r1; cases r2
      have hc := of_decide_eq_true (p := -(2 ^ 62) ≤ x ∧ x < 2 ^ 62 ∧ -(2 ^ 62) ≤ y ∧ y < 2 ^ 62) hc
      exact ⟨1, rfl, x, y, -1, (x - y).toNat, rfl, RgC.neg hc.1 hc.2.1 hc.2.2.1 hc.2.2.2, q (downL x y) (p1, p2) _ F' H' [] [] hk2 h' yields_down⟩)
end
end Z
namespace Z
open PySem PySem.Spec PyProof.Rows L2
section
variable {α Ω : Type}
/-- a walk that ends at the first one that .. -/
theorem forO_find (P : α → Bool) (f : α → Ω) {b : α → Unit → (Unit → Option Ω) → Option Ω} {k : Unit → Option Ω} : ∀ (xs : List α), (∀ x ∈ xs, ∀ kc, b x () kc = if P x = true then some (f x) else kc ()) → forO xs () b k = (xs.find? P).elim (k ()) (fun x => some (f x))
  | [], _ => rfl
  | x :: xs, h => by
    show b x () _ = _
    rw [h x (List.mem_cons_self ..), List.find?_cons]
    cases P x with
    | true => rfl
    | false => exact forO_find P f xs fun y m => h y (List.mem_cons_of_mem _ m)
end
end Z
namespace Z
theorem forO_mapL {α β S Ω : Type} (f : α → β) {b : β → S → (S → Option Ω) → Option Ω} {k : S → Option Ω} : ∀ (xs : List α) (s : S), forO (xs.map f) s b k = forO xs s (fun x => b (f x)) k
  | [], s => rfl
  | x :: xs, s => congrArg (b (f x) s) (funext fun s' => forO_mapL f xs s')
end Z

set_option Elab.async false
set_option linter.all false
set_option maxRecDepth 100000
namespace Z
open PySem PySem.Spec PyProof.Rows L2
theorem eLD {τ : Type} {E : Enc τ} {a : List τ} : (eL eD).enc (List.map E.enc a) = (eL E).enc a := by simp [eL, eD]
section
variable {X : Cx} {Ω : Type} {env : Env} {τ τ1 α : Type} {S : Stor τ} {S1 : Stor τ1} {E : Enc α} {pos : Pos} {a b : Expr} {P1 P2 : Type} {fa : (τ1 → P1 → Option Ω) → Option Ω} {e1 : P1 → Env} {g1 : τ1 → List α} {e2 : P1 → P2 → Env} {G1 : Env → Prop}
theorem RepAll.flat {K : Fg} {F : Hp} {vs : List V} {ds : List PyData} (h : RepAll K F vs ds) : ∀ n : Nat, RepAll K F (List.replicate n vs).flatten (List.replicate n ds).flatten
  | 0 => .nil
  | n + 1 => by
    rw [List.replicate_succ, List.replicate_succ, List.flatten_cons, List.flatten_cons]
    exact h.app (RepAll.flat h n)
/-- xs * n -/
theorem lx_rep {fb : P1 → (Int → P2 → Option Ω) → Option Ω} (hv1 : LVm S1 (it E) g1) (ha : LO X G1 env a S1 e1 fa) (hb : ∀ p1, LX X (e1 p1) b (it eI) (e2 p1) (fb p1)) (h1 : ∀ p1 p2, G1 (e2 p1 p2)) :
    LX X env (.BinOp a .Mult b pos) (ls (it E)) (fun p : P1 × P2 => e2 p.1 p.2) (fun k => fa fun x p1 => fb p1 fun n p2 => ck (decide (-(2 ^ 62) ≤ n ∧ n ≤ 16777216 ∧ (g1 x).length * n.toNat ≤ SZ)) (k ((List.replicate n.toNat (g1 x)).flatten) (p1, p2))) :=
  fun C F H σs es σ k ω Q hK hl h hk q => tE.of X (pe_op op_rep (peC X) (peC X)) (op2_run ha (fun p1 => lo_of (hb p1)) h1 (fun _ _ => trivial) hK hl h hk fun x p1 n p2 v u F' H' fp fq hk' h' r1 r2 => by
    obtain ⟨hc, hk'⟩ := ck_some hk'
    obtain ⟨_, r2⟩ := r2
    cases r2
    obtain ⟨p, vs, fps, rfl, l1, ra⟩ := hv1.view h'.sF r1
    have hc' := of_decide_eq_true hc
    have n1 := ra.length
    refine ⟨p, n, vs, rfl, rfl, l1, Int.le_trans (by decide) hc'.1, Int.lt_of_le_of_lt hc'.2.1 (by decide), by rw [SZ_eq, n1]; exact hc'.2.2, fun t nt => ?_⟩
    refine q _ (p1, p2) (.ref t) F' _ hk' (h'.newOw nt ⟨t, _, [], rfl, upd_same, ?_, rfl⟩)
    have := ra.zero.2.flat n.toNat
    have e : (List.replicate n.toNat ((g1 x).map E.enc)).flatten = ((List.replicate n.toNat (g1 x)).flatten).map E.enc := by
      rw [List.map_flatten, List.map_replicate]
    rw [e] at this
    exact this.zero)
/-- [] of own things -/
theorem lx_nilS {Sa : Stor α} : LX X env (.List [] pos) (ls Sa) (fun _ : Unit => env) (fun (k : List α → Unit → Option Ω) => k [] ()) :=
  fun C F H σs es σ k ω Q hK hl hr hk q => tE.of X (pe_lst (paC X)) (la_nil C F H σs es σ _ ω _ hK hl hr hk fun a p vs F' H' hk' hlv h' => by
    match vs, hlv with
    | [], _ =>
      refine ⟨by decide, fun t nt => ?_⟩
      exact q [] () (.ref t) F' _ hk' (h'.newOw nt ⟨t, [], [], rfl, upd_same, .nil, rfl⟩))
end
/-! ### cuts: nothing changed, one way on -/
section
variable {X : Cx} {Ω : Type} {env : Env} {τ : Type} {S : Stor τ} {e : Expr} {P : Type} {e' : P → Env}
theorem lx_nc {f : (τ → P → Option Ω) → Option Ω} (h : LX X env e S e' f) (hs : ∀ p, e' p = env) : LX X env e S (fun _ : Unit => env) (fun (k : τ → Unit → Option Ω) => f fun a _ => k a ()) :=
  fun C F H σs es σ k ω Q hK hl hr hk q => h C F H σs es σ _ ω Q hK hl hr hk fun a p v F' H' hka h' => q a () v F' H' hka (by rw [hs p] at h'; exact h')
/-- .. and one way on -/
theorem lx_cut {f : (τ → P → Option τ) → Option τ} (h : LX (Ω := τ) X env e S e' f) (hs : ∀ p, e' p = env) : LX X env e S (fun _ : Unit => env) (fun (k : τ → Unit → Option Ω) => (f fun a _ => some a).bind fun a => k a ()) :=
  fun C F H σs es σ k ω Q hK hl hr hk q => by
    obtain ⟨r, hf, hk⟩ := bind_some hk
    exact h C F H σs es σ (fun a _ => some a) r Q hK hl hr hf fun a p v F' H' hka h' => q a () v F' H' (by cases hka; exact hk) (by rw [hs p] at h'; exact h')
theorem lt_cut {f : (Bool → P → Option Bool) → Option Bool} (h : LT (Ω := Bool) X env e e' f) (hs : ∀ p, e' p = env) : LT X env e (fun _ : Unit => env) (fun (k : Bool → Unit → Option Ω) => (f fun b _ => some b).bind fun b => k b ()) :=
  fun C F H σs es σ k ω Q hK hl hr hk q => by
    obtain ⟨r, hf, hk⟩ := bind_some hk
    exact h C F H σs es σ (fun a _ => some a) r Q hK hl hr hf fun a p F' H' hka h' => q a () F' H' (by cases hka; exact hk) (by rw [hs p] at h'; exact h')
end
section
variable {X : Cx} {R I Ω J : Type} {SR : Stor R} {envR : I → Env} {kr : R → I → Option Ω} {bk ct : Lp Ω} {env : Env} {rest : List Stmt} {envJ : J → Env} {nm nm2 nm3 : Str} {pos : Pos} {a b c : Expr} {P : Type} {e' : P → Env}
/-- lb_par, whose slots are read off last (else the parts are walked blind) -/
theorem lb_parS {τ1 τ2 : Type} {S1 : Stor τ1} {S2 : Stor τ2} {sl : τ1 × τ2 × Unit → Env} {f : ((τ1 × τ2 × Unit) → P → Option Ω) → Option Ω} {fr : τ1 → τ2 → P → (J → Option Ω) → Option Ω} {px py pt : Pos} {kt k2 : Nat} {pt2 : Pos} (i j : Nat) (hN : X.N.Nodup) (hc : X.calm = true) (ha : LA X env [a, b] sl e' f) (hsl : ∀ p, sl p = [.st none τ1 S1 p.1, .st none τ2 S2 p.2.1])
    (hr : ∀ x y p, LB X SR envR kr bk ct (((e' p).set i (.st none τ1 S1 x)).set j (.st none τ2 S2 y)) rest envJ (fr x y p))
    (hi : X.N[i]? = some nm := by rfl) (hj : X.N[j]? = some nm2 := by rfl) (hij : i ≠ j := by decide) (hx : X.env.scope.names.lookup nm = some .local := by rfl) (hy : X.env.scope.names.lookup nm2 = some .local := by rfl)
    (hli : ∀ p, i < (e' p).length := by exact (fun _ => Nat.lt_of_sub_eq_succ rfl)) (hlj : ∀ p, j < (e' p).length := by exact (fun _ => Nat.lt_of_sub_eq_succ rfl))
    (hw : swappedStores [.Tuple [.Name nm px, .Name nm2 py] kt pt] (.Tuple [a, b] k2 pt2) X.env = pure (some [nm, nm2]) := by rfl)
    (hs : swapsWithSole [.Tuple [.Name nm px, .Name nm2 py] kt pt] (.Tuple [a, b] k2 pt2) pos.line X.env = pure false := by rfl) :
    LB X SR envR kr bk ct env (.Assign [.Tuple [.Name nm px, .Name nm2 py] kt pt] (.Tuple [a, b] k2 pt2) pos :: rest) envJ (fun kn => f fun r p => fr r.1 r.2.1 p kn) := by
  obtain rfl : sl = _ := funext hsl
  exact lb_par i j hN hc ha hr hi hj hij hx hy hli hlj hw hs
theorem lb_par3S {τ1 τ2 τ3 : Type} {S1 : Stor τ1} {S2 : Stor τ2} {S3 : Stor τ3} {sl : τ1 × τ2 × τ3 × Unit → Env} {f : ((τ1 × τ2 × τ3 × Unit) → P → Option Ω) → Option Ω} {fr : τ1 → τ2 → τ3 → P → (J → Option Ω) → Option Ω} {px py pz pt : Pos} {kt k2 : Nat} {pt2 : Pos} (i j l : Nat) (hN : X.N.Nodup) (hc : X.calm = true) (ha : LA X env [a, b, c] sl e' f) (hsl : ∀ p, sl p = [.st none τ1 S1 p.1, .st none τ2 S2 p.2.1, .st none τ3 S3 p.2.2.1])
    (hr : ∀ x y z p, LB X SR envR kr bk ct ((((e' p).set i (.st none τ1 S1 x)).set j (.st none τ2 S2 y)).set l (.st none τ3 S3 z)) rest envJ (fr x y z p))
    (hi : X.N[i]? = some nm := by rfl) (hj : X.N[j]? = some nm2 := by rfl) (hl3 : X.N[l]? = some nm3 := by rfl) (hij : i ≠ j := by decide) (hil : i ≠ l := by decide) (hjl : j ≠ l := by decide) (hx : X.env.scope.names.lookup nm = some .local := by rfl) (hy : X.env.scope.names.lookup nm2 = some .local := by rfl) (hz : X.env.scope.names.lookup nm3 = some .local := by rfl)
    (hli : ∀ p, i < (e' p).length := by exact (fun _ => Nat.lt_of_sub_eq_succ rfl)) (hlj : ∀ p, j < (e' p).length := by exact (fun _ => Nat.lt_of_sub_eq_succ rfl)) (hll : ∀ p, l < (e' p).length := by exact (fun _ => Nat.lt_of_sub_eq_succ rfl))
    (hw : swappedStores [.Tuple [.Name nm px, .Name nm2 py, .Name nm3 pz] kt pt] (.Tuple [a, b, c] k2 pt2) X.env = pure (some [nm, nm2, nm3]) := by rfl)
    (hs : swapsWithSole [.Tuple [.Name nm px, .Name nm2 py, .Name nm3 pz] kt pt] (.Tuple [a, b, c] k2 pt2) pos.line X.env = pure false := by rfl) :
    LB X SR envR kr bk ct env (.Assign [.Tuple [.Name nm px, .Name nm2 py, .Name nm3 pz] kt pt] (.Tuple [a, b, c] k2 pt2) pos :: rest) envJ (fun kn => f fun r p => fr r.1 r.2.1 r.2.2.1 p kn) := by
  obtain rfl : sl = _ := funext hsl
  exact lb_par3 i j l hN hc ha hr hi hj hl3 hij hil hjl hx hy hz hli hlj hll hw hs
end
/-! ### items of a list of own lists -/
theorem ixN_lt' {n i : Nat} {j : Int} (h : ixN n j = some i) : i < n := by
  unfold ixN at h
  split at h
  · split at h
    · cases h; omega
    · cases h
  · split at h
    · cases h; omega
    · cases h
theorem RelAll.split {α : Type} {R : List Addr → V → α → Prop} : ∀ {fp : List Addr} {vs : List V} {xs : List α}, RelAll R fp vs xs → ∀ {n : Nat} {x : α}, xs[n]? = some x →
    ∃ fp1 fq fp2 v, fp = fp1 ++ (fq ++ fp2) ∧ vs[n]? = some v ∧ R fq v x ∧ ∀ (R' : List Addr → V → α → Prop) (fq' : List Addr) (x' : α), (∀ fr w y, (∀ a ∈ fr, a ∈ fp1 ∨ a ∈ fp2) → R fr w y → R' fr w y) → R' fq' v x' → RelAll R' (fp1 ++ (fq' ++ fp2)) vs (xs.set n x')
  | _, _, _, .nil, n, x, e => by simp at e
  | _, _, _, .cons (fp := fq) (fps := fps) h r, 0, x, e => by
    simp at e; subst e
    refine ⟨[], fq, fps, _, rfl, rfl, h, fun R' fq' x' f q => ?_⟩
    have := RelAll.cons q (RelAll.imp (R' := R') (fun fr w y s z => f fr w y (fun a m => .inr (s a m)) z) r)
    simpa using this
  | _, _, _, .cons (fp := fq) (fps := fps) h r, n + 1, x, e => by
    obtain ⟨fp1, fr, fp2, u, rfl, e2, hr, k⟩ := RelAll.split r (n := n) (by simpa using e)
    refine ⟨fq ++ fp1, fr, fp2, u, by simp [List.append_assoc], by simpa using e2, hr, fun R' fq' x' f q => ?_⟩
    have := RelAll.cons (f _ _ _ (fun a m => .inl (List.mem_append_left _ m)) h) (k R' fq' x' (fun fs w y s z => f fs w y (fun a m => (s a m).elim (fun m => .inl (List.mem_append_right _ m)) .inr) z) q)
    simpa [List.append_assoc] using this
/-- a list whose object and items are known: while it is written to -/
def pinL {α : Type} (S : Stor α) (q : Addr) (vs : List V) : Stor (List α) where
  rel := fun K F H fp v xs => ∃ fps, v = .ref q ∧ H q = some (.lst vs) ∧ RelAll (S.rel K F H) fps vs xs ∧ fp = q :: fps
  monoF := fun s h => by
    obtain ⟨fps, rfl, hp, r, rfl⟩ := h
    exact ⟨fps, rfl, hp, r.imp fun _ _ _ _ q => S.monoF s q, rfl⟩
  frame := fun f h => by
    obtain ⟨fps, rfl, hp, r, rfl⟩ := h
    exact ⟨fps, rfl, by rw [f _ List.mem_cons_self]; exact hp, r.imp fun fq _ _ s q => S.frame (fun a m => f a (List.mem_cons_of_mem _ (s a m))) q, rfl⟩
section
variable {X : Cx} {R I Ω : Type} {SR : Stor R} {envR : I → Env} {kr : R → I → Option Ω} {bk ct : Lp Ω} {env : Env} {nm : Str} {pos : Pos} {e ie : Expr} {rest : List Stmt} {P P1 P2 α : Type} {E : Enc α} {J : Type} {envJ : J → Env}
theorem ER.pin {C : Ck} {F H : Hp} {σ : List (Option V)} {env : Env} {w : Option V} {Sa : Stor α} {xs : List α} {i : Nat} {q1 : Addr} (h : ER C F H σ env) (e : env[i]? = some (.st w (List α) (ls Sa) xs)) (hv : σ[i]? = some (some (.ref q1))) :
    ∃ vs, ER C F H σ (env.set i (.st w (List α) (pinL Sa q1 vs) xs)) := by
  obtain ⟨v, fp, e1, r, nd, ow, fin⟩ := h.mut e
  rw [hv] at e1; cases e1
  obtain ⟨q, vs, fps, e2, hq, ra, rfl⟩ := r
  cases e2
  exact ⟨vs, fin (List α) (pinL Sa q1 vs) xs H (q1 :: fps) (fun _ _ _ => rfl) (fun _ m => m) ⟨fps, rfl, hq, ra, rfl⟩ nd fun a m => ⟨(ow a m).2.2, .inl m⟩⟩
/-- x[i].append(e), x a list of own lists -/
theorem lb_appIx {fi : (Int → P1 → Option Ω) → Option Ω} {f : P1 → (α → P2 → Option Ω) → Option Ω} {fr : Int → P1 → α → P2 → List (List α) → (J → Option Ω) → Option Ω} {e1 : P1 → Env} {e2 : Addr → List V → P1 → P2 → Env} {w : Option V} {xs : List (List α)} {ap cp np sp : Pos} (i : Nat) (h0 : env[i]? = some (.st w (List (List α)) (ls (ls (it E))) xs))
    (hi : LX X env ie (it eI) e1 fi) (h1 : ∀ p, (e1 p)[i]? = some (.st w (List (List α)) (ls (ls (it E))) xs)) (he : ∀ q vs p, LX X ((e1 p).set i (.st w (List (List α)) (pinL (ls (it E)) q vs) xs)) e (it E) (e2 q vs p) (f p)) (h2 : ∀ q vs p p2, (e2 q vs p p2)[i]? = some (.st w (List (List α)) (pinL (ls (it E)) q vs) xs))
    (hr : ∀ q vs j p y p2 zs, LB X SR envR kr bk ct ((e2 q vs p p2).set i (.st w (List (List α)) (ls (ls (it E))) zs)) rest envJ (fr j p y p2 zs))
    (hN : X.N[i]? = some nm := by rfl) (hv : Vis X.env.scope nm := by first | exact Or.inl rfl | exact Or.inr (Or.inl rfl) | exact Or.inr (Or.inr rfl))
    (hd : (nm == ("__debug__" : Str)) = false := by decide) (hcd : (nm == ("__classdict__" : Str)) = false := by decide) (hp : PlainIx ie := by exact fun _ _ => rfl)
    (hbase : attributeBase (.Subscript (.Name nm np) ie sp) "append" X.env (eval (.Subscript (.Name nm np) ie sp) X.env) = eval (.Subscript (.Name nm np) ie sp) X.env := by rfl)
    (hfew : ((backTo cp (starEach [e] X.env)).all (fun x => !x.1) && (backToKw cp (keywordEach [] X.env)).all (fun x => x.1.isSome) && decide ([e].length + ([] : List Keyword).length + (if ([] : List Keyword).isEmpty then 0 else 1) < 30)) = true := by rfl)
    (hline : (ap.endLine == cp.line) = true := by rfl) (hse : starEach [e] X.env = (false, eval e X.env) :: starEach [] X.env := by rfl) (hplain : (backTo cp (starEach [] X.env)).any (·.1) = false := by rfl)
    (hsw : swapsWith (.Call (.Attribute (.Subscript (.Name nm np) ie sp) "append" ap) [e] [] cp) none pos.line X.env = pure false := by rfl) :
    LB X SR envR kr bk ct env (.Expr (.Call (.Attribute (.Subscript (.Name nm np) ie sp) "append" ap) [e] [] cp) pos :: rest) envJ (fun kn => fi fun j p => (ixN xs.length j).bind fun n => f p fun y p2 => ck (decide ((xs.getD n []).length < SZ)) (fr j p y p2 (xs.set n (xs.getD n [] ++ [y])) kn)) :=
  fun C F H σs es σ kn ω D hK hl h hk qn qb qc qr => tSs.of X (pss_cons (ps_expr (pe_bm PySem.F.plainAttrs_list PySem.F.slot_list_append PySem.F.type_list_append mt_append (pe_ix ix_list (pe_var hN hv hd hcd) (peC X) hp) (pa_cons (peC X) pa_nil hse) hbase hfew hline hse hplain) hsw) (pssC X)) (by
    obtain ⟨l, fp, e1', r⟩ := h.lookF hl h0
    refine ⟨l, e1', hi C F H σs es σ _ ω _ hK hl h hk fun j p u F' H' hk' h' => ?_⟩
    have hu : u = .int j := by
      obtain ⟨v', fp, e1, r⟩ := h'.look (i := 0) rfl
      simp at e1; subst e1
      obtain ⟨_, r⟩ := r
      cases r; rfl
    subst hu
    have h3 : ER C F' H' (σs ++ σ) (es ++ e1 p) := h'.pop
    obtain ⟨n, hn, hk'⟩ := bind_some hk'
    obtain ⟨l', fp', e3, r1⟩ := h3.lookF hl (h1 p)
    rw [e1'] at e3; cases e3
    obtain ⟨q1, vs1, fps, rfl, _, _, _⟩ := r1
    obtain ⟨vs, h3p⟩ := h3.pin (i := es.length + i) (q1 := q1) (by rw [at_app _ rfl]; exact h1 p) (by rw [at_app _ hl]; exact e1')
    rw [List.set_append_right _ _ (Nat.le_add_right _ _), Nat.add_sub_cancel_left] at h3p
    have hil : i < (e1 p).length := lt_of_get (h1 p)
    obtain ⟨l5, fp5, e5, r5⟩ := h3p.lookF (i := i) hl (by rw [List.getElem?_set_self hil])
    rw [e1'] at e5; cases e5
    obtain ⟨fps5, _, hq, ra, _⟩ := r5
    have hlen := ra.length
    have hnl : n < xs.length := ixN_lt' hn
    have hx : xs[n]? = some (xs.getD n []) := by rw [List.getElem?_eq_getElem hnl, List.getD_eq_getElem?_getD, List.getElem?_eq_getElem hnl]; rfl
    obtain ⟨fp1, fq, fp2, v, efp, hvn, rv, _⟩ := ra.split hx
    obtain ⟨q2, ws, fps2, rfl, hq2, rw2, rfl⟩ := rv
    refine ⟨q1, vs, j, .ref q2, rfl, rfl, SqL.of hq, by unfold atI; rw [hlen, hn]; exact hvn, .inl ⟨rfl, ws, SqL.of hq2⟩, ?_⟩
    refine he q1 vs p C F' H' σs es σ _ ω _ hK hl h3p hk' fun y p2 v F2 H2 hk2 h4 => ?_
    obtain ⟨hc, hk2⟩ := ck_some hk2
    have hc' := of_decide_eq_true hc
    have ry : Rep C.K F2 v (E.enc y) := by
      obtain ⟨v', fp, e1, r⟩ := h4.look (i := 0) rfl
      simp at e1; subst e1
      exact r.2
    obtain ⟨l2, fp3, e4, r3, nd, ow, fin⟩ := h4.pop.mut (i := es.length + i) (by rw [at_app _ rfl]; exact h2 q1 vs p p2)
    rw [at_app _ hl, e1'] at e4
    cases e4
    obtain ⟨fps3, _, hq3, ra3, rfl⟩ := r3
    obtain ⟨gp1, gq, gp2, v3, egp, hvn3, rv3, put⟩ := ra3.split hx
    rw [hvn] at hvn3; cases hvn3
    obtain ⟨q4, ws4, fps4, e6, hq4, rw4, rfl⟩ := rv3
    cases e6
    subst egp
    obtain ⟨rfl, rp4⟩ := rw4.zero
    have hlen4 : ws4.length = (xs.getD n []).length := by have := rp4.length; simpa using this
    refine ⟨q2, ws4, v, rfl, rfl, hq4, by rw [SZ_eq]; omega, ?_⟩
    have n1 : q1 ≠ q2 := fun z => by
      have := (List.nodup_cons.mp nd).1
      exact this (by rw [z]; simp)
    have nm1 : q2 ∉ gp1 ∧ q2 ∉ gp2 := by
      have := (List.nodup_cons.mp nd).2
      rw [List.nodup_append] at this
      obtain ⟨_, h2, h3⟩ := this
      exact ⟨fun m => h3 q2 m q2 (by simp) rfl, fun m => (List.nodup_cons.mp h2).1 (by simpa using m)⟩
    have fin' := fin (List (List α)) (ls (ls (it E))) (xs.set n (xs.getD n [] ++ [y])) (upd H2 q2 (.lst (ws4 ++ [v]))) (q1 :: (gp1 ++ ([q2] ++ gp2))) (fun a na _ => upd_ne fun z => na (by rw [z]; simp)) (fun a m => ?_) ⟨q1, vs, _, rfl, by rw [upd_ne n1]; exact hq3, put _ [q2] _ (fun fr w y s z => Stor.frame _ (fun a m => upd_ne fun z => by
        rcases s a m with m | m
        · exact nm1.1 (z ▸ m)
        · exact nm1.2 (z ▸ m)) z) ⟨q2, ws4 ++ [v], [], rfl, upd_same, ?_, rfl⟩, rfl⟩ nd (fun a m => ?_)
    · rw [List.set_append_right _ _ (Nat.le_add_right _ _), Nat.add_sub_cancel_left] at fin'
      exact hr q1 vs j p y p2 _ C F2 _ σs es σ kn ω D hK hl fin' hk2 qn qb qc qr
    · by_cases z : a = q2
      · subst z; rw [upd_same]; exact fun z => by cases z
      · rw [upd_ne z]; exact m
    · have := rp4.app (.cons ry .nil)
      have e : (xs.getD n []).map E.enc ++ [E.enc y] = (xs.getD n [] ++ [y]).map E.enc := by simp
      rw [e] at this
      exact this.zero
    · refine ⟨?_, .inl m⟩
      by_cases z : a = q2
      · subst z; rw [upd_same]; exact fun z => by cases z
      · rw [upd_ne z]; exact (ow a m).2.2)
end
end Z

set_option Elab.async false
set_option linter.all false
set_option maxRecDepth 100000
namespace Z
open PySem PySem.Spec PyProof.Rows L2
theorem eLLD {τ : Type} {E : Enc τ} {a : List (List τ)} : (eL (eL eD)).enc (List.map (List.map E.enc) a) = (eL (eL E)).enc a := by simp [eL, eD]
/-! ### comprehensions of two fors, nothing changed -/
theorem wipe_same {σ σ' : List (Option V)} {vs : List Nat} (hl : σ'.length = σ.length) (h : ∀ j : Nat, j ∉ vs → σ'[j]? = σ[j]?) : wipe σ' vs = wipe σ vs := by
  apply List.ext_getElem?
  intro j
  rw [wipe_get, wipe_get]
  by_cases m : j ∈ vs
  · rw [if_pos m, if_pos m, hl]
  · rw [if_neg m, if_neg m, h j m]
theorem wipe_at {σ σ' : List (Option V)} {vs : List Nat} (h : wipe σ' vs = wipe σ vs) {j : Nat} (m : j ∉ vs) : σ'[j]? = σ[j]? := by
  have := congrArg (fun l => l[j]?) h
  simpa only [wipe_get, if_neg m] using this
theorem wipe_len {σ σ' : List (Option V)} {vs : List Nat} (h : wipe σ' vs = wipe σ vs) : σ'.length = σ.length := by
  have := congrArg List.length h
  simpa only [wipe_length] using this
theorem wipe_idem {σ : List (Option V)} {vs : List Nat} : wipe (wipe σ vs) vs = wipe σ vs := wipe_same (wipe_length _ _) fun j m => by rw [wipe_get, if_neg m]
theorem ER.wl {C : Ck} {F H : Hp} {σp σ σ' : List (Option V)} {ep env : Env} {vs : List Nat} (h : ER C F H (σp ++ σ) (ep ++ env)) (hl : σp.length = ep.length) (hu : ∀ (i : Nat) (s : Slot), i ∈ vs → env[i]? = some s → s = Slot.un) (hw : wipe σ' vs = wipe σ vs) : ER C F H (σp ++ σ') (ep ++ env) :=
  h.like hl (wipe_len hw) fun j s e => by
    by_cases m : j ∈ vs
    · exact .inl (hu j s m e)
    · exact .inr (wipe_at hw m)
section
variable {X : Cx} {Ω : Type} {env env0 : Env} {pos : Pos} {elt tg iter tg1 iter1 : Expr} {ifs1 : List Expr} {P P1 P2 P3 : Type} {α β δ : Type} {Sa : Stor α} {Sb : Stor β} {Sd : Stor δ} {e' : P → Env} {scope : Scope} {own : List (Str × Nat)} {ix ix1 : List Nat}
  {envX : α → Env} {e1 : α → P1 → Env} {envY : α → P1 → β → Env} {eT : α → P1 → β → P2 → Env} {eE : α → P1 → β → P2 → P3 → Env}
  {f : (List α → P → Option Ω) → Option Ω} {f1 : α → (List β → P1 → Option Ω) → Option Ω} {ft : α → P1 → β → (Bool → P2 → Option Ω) → Option Ω} {fe : α → P1 → β → P2 → (δ → P3 → Option Ω) → Option Ω}
def lcIn (ft : α → P1 → β → (Bool → P2 → Option Ω) → Option Ω) (fe : α → P1 → β → P2 → (δ → P3 → Option Ω) → Option Ω) (x : α) (p1 : P1) (y : β) (acc : List δ) (kc : List δ → Option Ω) : Option Ω :=
  ft x p1 y fun b p2 => if b = true then fe x p1 y p2 fun z _ => ck (decide (acc.length < SZ)) (kc (acc ++ [z])) else kc acc
def lcOut (f1 : α → (List β → P1 → Option Ω) → Option Ω) (ft : α → P1 → β → (Bool → P2 → Option Ω) → Option Ω) (fe : α → P1 → β → P2 → (δ → P3 → Option Ω) → Option Ω) (x : α) (acc : List δ) (kc : List δ → Option Ω) : Option Ω :=
  f1 x fun ys p1 => forO ys acc (lcIn ft fe x p1) kc
theorem lc2_run (hi : LI X env tg iter Sa e' f) (h0 : ∀ p, Sub (e' p) env0) (hu : ∀ (i : Nat) (s : Slot), i ∈ own.map (·.2) → env0[i]? = some s → s = Slot.un)
    (hsub : ∀ i ∈ ix, i ∈ own.map (·.2)) (hsub1 : ∀ i ∈ ix1, i ∈ own.map (·.2))
    (hg : ∀ Y, Blk X scope Y → LG Y ix env0 tg Sa envX) (hi1 : ∀ Y, Blk X scope Y → ∀ x, LI Y (envX x) tg1 iter1 Sb (e1 x) (f1 x)) (hu1 : ∀ (x : α) (p : P1) (i : Nat) (s : Slot), i ∈ ix1 → (e1 x p)[i]? = some s → s = Slot.un)
    (hg1 : ∀ Y, Blk X scope Y → ∀ x p, LG Y ix1 (e1 x p) tg1 Sb (envY x p)) (ht : ∀ Y, Blk X scope Y → ∀ x p y, LTl Y (envY x p y) ifs1 (eT x p y) (ft x p y)) (he : ∀ Y, Blk X scope Y → ∀ x p y q, LX Y (eT x p y q) elt Sd (eE x p y q) (fe x p y q))
    (hn : ∀ x p y q r, Sub (eE x p y q r) (e1 x p)) (hf : ∀ x p y q, Sub (eT x p y q) (e1 x p)) (hb : ∀ x p, Sub (e1 x p) env0)
    {C : Ck} {F H : Hp} {σs : List (Option V)} {es : Env} {σ : List (Option V)} {k : List δ → Unit → Option Ω} {ω : Ω} {Q : VK} (hK : C.K = X.K) (hl : σs.length = es.length) (h : ER C F H (σs ++ σ) (es ++ env))
    (hk : (f fun xs _ => forO xs [] (lcOut f1 ft fe) fun acc => k acc ()) = some ω)
    (q : ∀ ys v F' H', k ys () = some ω → ER C F' H' (some v :: (σs ++ σ)) (.st none (List δ) (ls Sd) ys :: (es ++ env0)) → Q v H') :
    tLc2 (tI X tg iter) (fun v σ H Q => ∀ Y, Blk X scope Y → tG Y tg v σ H Q) (fun σ H Q => ∀ Y, Blk X scope Y → tTl Y [] σ H Q) (fun σ H R => ∀ Y, Blk X scope Y → tI Y tg1 iter1 σ H R) (fun v σ H Q => ∀ Y, Blk X scope Y → tG Y tg1 v σ H Q) (fun σ H Q => ∀ Y, Blk X scope Y → tTl Y ifs1 σ H Q) (fun σ H Q => ∀ Y, Blk X scope Y → tE Y elt σ H Q) (own.map (·.2)) ix1 σ H Q := by
  refine hi C F H σs es σ _ ω _ hK hl h hk fun xs p J F' H' σx ex hk' h' hy => ?_
  intro D nD
  have hnew : ER C F' (upd H' D (.lst [])) (some (.ref D) :: (σx ++ (σs ++ σ))) (.st none (List δ) (ls Sd) [] :: (ex ++ (es ++ e' p))) := h'.newOw nD ⟨D, [], [], rfl, upd_same, .nil, rfl⟩
  refine ⟨fun i m H2 => m = xs.length - i ∧ i ≤ xs.length ∧ ∃ acc F2, ER C F2 H2 (some (.ref D) :: (σx ++ (σs ++ σ))) (.st none (List δ) (ls Sd) acc :: (ex ++ (es ++ env0))) ∧ forO (xs.drop i) acc (lcOut f1 ft fe) (fun acc => k acc ()) = some ω,
    ⟨xs.length, by simp, Nat.zero_le _, [], F', ER.sub hnew (.keep (((h0 p).pre es).pre ex)), by simpa using hk'⟩, ?_⟩
  rintro i m H2 ⟨rfl, hi', acc, F2, h2, hk2⟩
  obtain ⟨y1, y2⟩ := hy.go i F2 H2 [some (.ref D)] (σs ++ σ) [.st none (List δ) (ls Sd) acc] (es ++ env0) rfl h2
  by_cases hlt : i < xs.length
  rotate_left
  · have e : i = xs.length := by omega
    subst e
    refine .inl ⟨y2 (by simp), q acc (.ref D) F2 H2 (by simpa [forO] using hk2) ?_⟩
    have h3 : ER C F2 H2 (σx ++ some (.ref D) :: (σs ++ σ)) (ex ++ .st none (List δ) (ls Sd) acc :: (es ++ env0)) := ER.unrot h2 hy.len
    exact h3.popN hy.len
  have ex1 : xs[i]? = some xs[i] := List.getElem?_eq_getElem hlt
  obtain ⟨g1, g2⟩ := y1 _ ex1
  have ed : xs.drop i = xs[i] :: xs.drop (i + 1) := List.drop_eq_getElem_cons hlt
  rw [ed] at hk2
  generalize xs[i] = x at ex1 g2 hk2
  refine .inr ⟨g1, fun H3 => ∃ acc F3, ER C F3 H3 (some (.ref D) :: (σx ++ (σs ++ σ))) (.st none (List δ) (ls Sd) acc :: (ex ++ (es ++ env0))) ∧ forO (xs.drop (i + 1)) acc (lcOut f1 ft fe) (fun acc => k acc ()) = some ω,
    fun H3 ⟨acc3, F3, h3, hk3⟩ => ⟨xs.length - (i + 1), by omega, rfl, hlt, acc3, F3, h3, hk3⟩, fun v H3 hv Y bY => ?_⟩
  have YK : C.K = Y.K := by obtain ⟨_, _, _, _, _, rfl⟩ := bY.is; exact hK
  obtain ⟨F3, h3⟩ := g2 v H3 hv
  have lenp : ((some (.ref D) : Option V) :: (σx ++ σs)).length = ((.st none (List δ) (ls Sd) acc : Slot) :: (ex ++ es)).length := by simp [hl, hy.len]
  have h3' : ER C F3 H3 ((some v :: some (.ref D) :: (σx ++ σs)) ++ wipe σ (own.map (·.2))) ((.st none α Sa x :: .st none (List δ) (ls Sd) acc :: (ex ++ es)) ++ env0) :=
    ER.wl (σ := σ) (vs := own.map (·.2)) (by simpa [List.append_assoc] using h3) (by simp [hl, hy.len]) hu wipe_idem
  refine hg Y bY C F3 H3 (some (.ref D) :: (σx ++ σs)) (.st none (List δ) (ls Sd) acc :: (ex ++ es)) (wipe σ (own.map (·.2))) v x _ YK lenp (by simpa [List.append_assoc] using h3') fun σ4 e4 h4 => ?_
  have hw4 : wipe σ4 (own.map (·.2)) = wipe σ (own.map (·.2)) := (wipe_same e4.1 fun j m => e4.2 j fun z => m (hsub j z)).trans wipe_idem
  refine ⟨hw4, fun Y bY => ?_⟩
  refine tTl.of Y pts_nil ?_
  unfold tYes
  refine Eq.mpr (if_pos rfl) ?_
  intro Y bY
  have YK : C.K = Y.K := by obtain ⟨_, _, _, _, _, rfl⟩ := bY.is; exact hK
  refine hi1 Y bY x C F3 H3 (some (.ref D) :: (σx ++ σs)) (.st none (List δ) (ls Sd) acc :: (ex ++ es)) σ4 _ ω _ YK lenp h4 hk2 fun ys p1 J1 F5 H5 σy ey hk5 h5 hy1 => ?_
  have lenq : ∀ a : List δ, (σy ++ (some (.ref D) :: (σx ++ σs)) : List (Option V)).length = (ey ++ ((.st none (List δ) (ls Sd) a : Slot) :: (ex ++ es))).length := fun a => by simp [hl, hy.len, hy1.len]
  refine ⟨fun j m H6 => m = ys.length - j ∧ j ≤ ys.length ∧ ∃ acc F6, ER C F6 H6 (σy ++ ((some (.ref D) :: (σx ++ σs)) ++ σ4)) (ey ++ ((.st none (List δ) (ls Sd) acc :: (ex ++ es)) ++ e1 x p1)) ∧ forO (ys.drop j) acc (lcIn ft fe x p1) (fun acc => forO (xs.drop (i + 1)) acc (lcOut f1 ft fe) fun acc => k acc ()) = some ω,
    ⟨ys.length, by simp, Nat.zero_le _, acc, F5, h5, by simpa using hk5⟩, ?_⟩
  rintro j m H6 ⟨rfl, hj', acc, F6, h6, hk6⟩
  obtain ⟨z1, z2⟩ := hy1.go j F6 H6 [] _ [] _ rfl h6
  by_cases hlt1 : j < ys.length
  rotate_left
  · have e : j = ys.length := by omega
    subst e
    refine .inl ⟨z2 (by simp), acc, F6, ?_, by simpa [forO] using hk6⟩
    have h7 : ER C F6 H6 ((some (.ref D) :: (σx ++ σs)) ++ σ4) ((.st none (List δ) (ls Sd) acc :: (ex ++ es)) ++ env0) := (h6.popN hy1.len).subF (hb x p1)
    have h8 := ER.wl (σ' := σ) h7 (by simp [hl, hy.len]) hu hw4.symm
    simpa [List.append_assoc] using h8
  have ey1 : ys[j]? = some ys[j] := List.getElem?_eq_getElem hlt1
  obtain ⟨w1, w2⟩ := z1 _ ey1
  have ed1 : ys.drop j = ys[j] :: ys.drop (j + 1) := List.drop_eq_getElem_cons hlt1
  rw [ed1] at hk6
  generalize ys[j] = y at ey1 w2 hk6
  refine .inr ⟨w1, fun H7 => ∃ acc F7, ER C F7 H7 (σy ++ ((some (.ref D) :: (σx ++ σs)) ++ σ4)) (ey ++ ((.st none (List δ) (ls Sd) acc :: (ex ++ es)) ++ e1 x p1)) ∧ forO (ys.drop (j + 1)) acc (lcIn ft fe x p1) (fun acc => forO (xs.drop (i + 1)) acc (lcOut f1 ft fe) fun acc => k acc ()) = some ω,
    fun H7 ⟨acc7, F7, h7, hk7⟩ => ⟨ys.length - (j + 1), by omega, rfl, hlt1, acc7, F7, h7, hk7⟩, fun v7 H7 hv7 Y bY => ?_⟩
  have YK : C.K = Y.K := by obtain ⟨_, _, _, _, _, rfl⟩ := bY.is; exact hK
  obtain ⟨F7, h7⟩ := w2 v7 H7 hv7
  have h7' : ER C F7 H7 ((some v7 :: (σy ++ (some (.ref D) :: (σx ++ σs)))) ++ wipe σ4 ix1) ((.st none β Sb y :: (ey ++ (.st none (List δ) (ls Sd) acc :: (ex ++ es)))) ++ e1 x p1) :=
    ER.wl (σ := σ4) (vs := ix1) (by simpa [List.append_assoc] using h7) (by have := lenq acc; simp at this ⊢; omega) (hu1 x p1) wipe_idem
  refine hg1 Y bY x p1 C F7 H7 (σy ++ (some (.ref D) :: (σx ++ σs))) (ey ++ (.st none (List δ) (ls Sd) acc :: (ex ++ es))) (wipe σ4 ix1) v7 y _ YK (lenq acc) (by simpa [List.append_assoc] using h7') fun σ5 e5 h8 => ?_
  have hw5 : wipe σ5 ix1 = wipe σ4 ix1 := (wipe_same e5.1 fun j m => e5.2 j m).trans wipe_idem
  refine ⟨hw5, fun Y bY => ?_⟩
  have YK : C.K = Y.K := by obtain ⟨_, _, _, _, _, rfl⟩ := bY.is; exact hK
  refine ht Y bY x p1 y C F7 H7 (σy ++ (some (.ref D) :: (σx ++ σs))) (ey ++ (.st none (List δ) (ls Sd) acc :: (ex ++ es))) σ5 _ ω _ YK (lenq acc) h8 hk6 fun bb p2 F8 H8 hk8 h9 => ?_
  cases bb with
  | false =>
    rw [if_neg Bool.false_ne_true] at hk8 ⊢
    have h10 := h9.subF (hf x p1 y p2)
    have h11 := ER.wl (σ' := σ4) h10 (lenq acc) (hu1 x p1) hw5.symm
    exact ⟨acc, F8, by simpa [List.append_assoc] using h11, hk8⟩
  | true =>
    rw [if_pos rfl] at hk8 ⊢
    intro Y bY
    have YK : C.K = Y.K := by obtain ⟨_, _, _, _, _, rfl⟩ := bY.is; exact hK
    refine he Y bY x p1 y p2 C F8 H8 (σy ++ (some (.ref D) :: (σx ++ σs))) (ey ++ (.st none (List δ) (ls Sd) acc :: (ex ++ es))) σ5 _ ω _ YK (lenq acc) h9 hk8 fun z p3 u F9 H9 hk9 h10 => ?_
    have h11 : ER C F9 H9 (some u :: (σy ++ (some (.ref D) :: (σx ++ (σs ++ σ5))))) (.st none δ Sd z :: (ey ++ (.st none (List δ) (ls Sd) acc :: (ex ++ (es ++ eE x p1 y p2 p3))))) := by simpa [List.append_assoc] using h10
    obtain ⟨hc, hk9⟩ := ck_some hk9
    obtain ⟨v', fp', v0, fq, a2, a3, r1, r2, nd, ow, fin⟩ := h11.absorb (i := ey.length) (w := none) (τ := List δ) (S := ls Sd) (x := acc) (by rw [List.getElem?_append_right (Nat.le_refl _)]; simp)
    rw [← hy1.len, List.getElem?_append_right (Nat.le_refl _), Nat.sub_self] at a2
    simp at a2 a3; subst a2; subst a3
    obtain ⟨q1, vs, fps, e4', hq, ra, rfl⟩ := r1
    cases e4'
    have hlen := ra.length
    have hc' := of_decide_eq_true hc
    refine ⟨vs, hq, by rw [SZ_eq]; omega, acc ++ [z], F9, ?_, hk9⟩
    have nm : D ∉ fps ++ fq := by
      have : (D :: (fps ++ fq)).Nodup := by simpa using nd
      exact (List.nodup_cons.mp this).1
    have fin' := fin (List δ) (ls Sd) (acc ++ [z]) (upd H9 D (.lst (vs ++ [u]))) (D :: (fps ++ fq)) (fun a na _ => upd_ne fun z => na (by rw [z]; simp)) (fun a m => by
      by_cases z : a = D
      · subst z; rw [upd_same]; exact fun z => by cases z
      · rw [upd_ne z]; exact m) ⟨D, vs ++ [u], fps ++ fq, rfl, upd_same, RelAll.imp (fun fr' v' x' s q => Sd.frame (fun a m => upd_ne fun z => nm (z ▸ s a m)) q) (ra.app r2), rfl⟩ (by simpa using nd) (fun a m => by
      refine ⟨?_, .inl (by simpa using m)⟩
      by_cases z : a = D
      · subst z; rw [upd_same]; exact fun z => by cases z
      · rw [upd_ne z]; exact (ow a (by simpa using m)).2.2)
    rw [List.set_append_right _ _ (Nat.le_refl _), Nat.sub_self, List.set_cons_zero] at fin'
    have h12 : ER C F9 (upd H9 D (.lst (vs ++ [u]))) ((σy ++ (some (.ref D) :: (σx ++ σs))) ++ σ5) ((ey ++ (.st none (List δ) (ls Sd) (acc ++ [z]) :: (ex ++ es))) ++ eE x p1 y p2 p3) := by simpa [List.append_assoc] using fin'
    have h13 := h12.subF (hn x p1 y p2 p3)
    have h14 := ER.wl (σ' := σ4) h13 (lenq _) (hu1 x p1) hw5.symm
    simpa [List.append_assoc] using h14
/-- [.. for .. in .. for .. in .. if ..] -/
theorem lx_lc2 (hc : X.calm = true) (hN : X.N.Nodup) (ok : BlkOk X.N X.env.scope scope own) (hi : LI X env tg iter Sa e' f) (env0 : Env) (h0 : ∀ p, Sub (e' p) env0) (hu : ∀ (i : Nat) (s : Slot), i ∈ own.map (·.2) → env0[i]? = some s → s = Slot.un)
    (hg : ∀ (s : Shared) (H : Hp) (C : Addr) (cl : List (Str × Addr)) (fp : List Addr), LG (X.blk s H scope (compEnvC scope cl C X.env) fp) ix env0 tg Sa envX) (hi1 : ∀ (s : Shared) (H : Hp) (C : Addr) (cl : List (Str × Addr)) (fp : List Addr) x, LI (X.blk s H scope (compEnvC scope cl C X.env) fp) (envX x) tg1 iter1 Sb (e1 x) (f1 x))
    (hg1 : ∀ (s : Shared) (H : Hp) (C : Addr) (cl : List (Str × Addr)) (fp : List Addr) x p, LG (X.blk s H scope (compEnvC scope cl C X.env) fp) ix1 (e1 x p) tg1 Sb (envY x p)) (ht : ∀ (s : Shared) (H : Hp) (C : Addr) (cl : List (Str × Addr)) (fp : List Addr) x p y, LTl (X.blk s H scope (compEnvC scope cl C X.env) fp) (envY x p y) ifs1 (eT x p y) (ft x p y)) (he : ∀ (s : Shared) (H : Hp) (C : Addr) (cl : List (Str × Addr)) (fp : List Addr) x p y q, LX (X.blk s H scope (compEnvC scope cl C X.env) fp) (eT x p y q) elt Sd (eE x p y q) (fe x p y q))
    (hu1 : ∀ (x : α) (p : P1) (i : Nat) (s : Slot), i ∈ ix1 → (e1 x p)[i]? = some s → s = Slot.un) (hn : ∀ x p y q r, Sub (eE x p y q r) (e1 x p)) (hf : ∀ x p y q, Sub (eT x p y q) (e1 x p)) (hb : ∀ x p, Sub (e1 x p) env0)
    (hsub : ∀ i ∈ ix, i ∈ own.map (·.2) := by decide) (hsub1 : ∀ i ∈ ix1, i ∈ own.map (·.2) := by decide)
    (hs : ∀ x, foldedSetIterable iter X.env x = pure x := by intro _; rfl) (hs1 : ∀ (e : PySem.Env) (x : Value), foldedSetIterable iter1 e x = pure x := by intro _ _; rfl) :
    LX X env (.ListComp elt [⟨tg, iter, [], 0⟩, ⟨tg1, iter1, ifs1, 0⟩] scope pos) (ls Sd) (fun _ : Unit => env0) (fun k => f fun xs _ => forO xs [] (lcOut f1 ft fe) fun acc => k acc ()) :=
  fun C F H σs es σ k ω Q hK hl h hk q => tE.of X (pe_lc2 hc hN (piC X) ok hsub1
      (fun s H C cl fp => ⟨fun pins s' σ H' v u Q I r h => h _ ⟨s, H, C, cl, fp, rfl⟩ pins s' u I r⟩) (fun s H C cl fp => ⟨fun pins s' σ H' Q I h => h _ ⟨s, H, C, cl, fp, rfl⟩ pins s' I⟩)
      (fun s H C cl fp => ⟨fun pins s' σ H' R I h => h _ ⟨s, H, C, cl, fp, rfl⟩ pins s' I⟩) (fun s H C cl fp => ⟨fun pins s' σ H' v u Q I r h => h _ ⟨s, H, C, cl, fp, rfl⟩ pins s' u I r⟩) (fun s H C cl fp => ⟨fun pins s' σ H' Q I h => h _ ⟨s, H, C, cl, fp, rfl⟩ pins s' I⟩) (fun s H C cl fp => ⟨fun pins s' σ H' Q I h => h _ ⟨s, H, C, cl, fp, rfl⟩ pins s' I⟩) hs hs1)
    (lc2_run hi h0 hu hsub hsub1 (fun Y bY => by obtain ⟨s, H, C, cl, fp, rfl⟩ := bY.is; exact hg s H C cl fp) (fun Y bY => by obtain ⟨s, H, C, cl, fp, rfl⟩ := bY.is; exact hi1 s H C cl fp) hu1 (fun Y bY => by obtain ⟨s, H, C, cl, fp, rfl⟩ := bY.is; exact hg1 s H C cl fp) (fun Y bY => by obtain ⟨s, H, C, cl, fp, rfl⟩ := bY.is; exact ht s H C cl fp) (fun Y bY => by obtain ⟨s, H, C, cl, fp, rfl⟩ := bY.is; exact he s H C cl fp) hn hf hb hK hl h hk (fun ys v F' H' hk' h' => q ys () v F' H' hk' h'))
end
section
variable {X : Cx} {Ω : Type} {env : Env} {nm : Str} {pos : Pos} {a b e tg : Expr} {xs tgs : List Expr} {P P1 P2 A : Type} {τ τ1 τ2 α β : Type} {S : Stor τ} {S1 : Stor τ1} {S2 : Stor τ2} {E : Enc τ} {E1 : Enc τ1} {E2 : Enc τ2} {ix : List Nat} {e' : P → Env} {e1 : P1 → Env} {e2 : P1 → P2 → Env}
/-- a walk over a tuple of one kind -/
theorem li_tup {g : τ → List α} {Ea : Enc α} {f : (τ → P → Option Ω) → Option Ω} (hv : TVw S (it Ea) g) (h : LX X env e S e' f) : LI X env tg e (it Ea) e' (fun k => f fun x p => k (g x) p) :=
  fun C F H σs es σ k ω R hK hl hr hk q => tI.of X (pi_tup (peC X)) (h C F H σs es σ _ ω _ hK hl hr hk fun x p v F' H' hk' h' => by
    obtain ⟨v', fp, e1, r⟩ := h'.look (i := 0) rfl
    simp at e1; subst e1
    obtain ⟨p0, vs, fps, rfl, hs, ra⟩ := hv.view h'.sF r
    refine ⟨p0, rfl, ⟨vs, by rw [← hK]; exact hs⟩, q (g x) p (Itt X.K p0) F' H' [some (.ref p0)] [.st none τ S x] hk' h' ⟨rfl, fun i F2 H2 σ2 σb e2 eb hl2 h2 => ?_⟩⟩
    obtain ⟨v', fp', e1, r'⟩ := h2.look (i := e2.length + 0) (by rw [at_app _ rfl]; rfl)
    rw [at_app _ hl2] at e1
    simp at e1; subst e1
    obtain ⟨p1, ws, fps', e3, hs', ra'⟩ := hv.view h2.sF r'
    cases e3
    rw [hK] at hs'
    have rp := ra'.zero.2
    refine ⟨fun y hy => ?_, fun hn => ?_⟩
    · obtain ⟨w, hw, rw'⟩ := rp.get (i := i) (d := Ea.enc y) (by rw [List.getElem?_map, hy]; rfl)
      refine ⟨⟨ws, w, hs', hw⟩, fun v H' hy' => ⟨F2, ?_⟩⟩
      obtain ⟨e4, hy'⟩ := hy'
      have := hy' ws hs'
      rw [hw] at this; cases this
      rw [e4]
      exact h2.pushSh rw'
    · refine ⟨ws, hs', ?_⟩
      have := rp.length
      simp at this
      have := List.getElem?_eq_none_iff.mp hn
      omega)
end
section
variable {X : Cx} {Ω : Type} {env : Env} {nm : Str} {pos : Pos} {a b c e : Expr} {xs rest : List Expr} {P P1 P2 P3 A : Type} {τ τ1 τ2 α β : Type} {S : Stor τ} {S1 : Stor τ1} {S2 : Stor τ2} {E : Enc τ} {E1 : Enc τ1} {E2 : Enc τ2}
/-- a if c else b, whose branches change things: what is left is told by j -/
theorem lx_ifJ {Pj : Type} (envJ : Pj → Env) {e2 : P1 → P2 → Env} {e3 : P1 → P3 → Env} {fc : (Bool → P1 → Option Ω) → Option Ω} {fa : P1 → (τ → P2 → Option Ω) → Option Ω} {fb : P1 → (τ → P3 → Option Ω) → Option Ω} (hc : LT X env c e1 fc) (ha : ∀ p1, LX X (e1 p1) a S (e2 p1) (fa p1)) (hb : ∀ p1, LX X (e1 p1) b S (e3 p1) (fb p1))
    (ja : P1 → P2 → Pj) (jb : P1 → P3 → Pj) (hs : ∀ p1 p2, Sub (e2 p1 p2) (envJ (ja p1 p2))) (hs3 : ∀ p1 p3, Sub (e3 p1 p3) (envJ (jb p1 p3))) :
    LX X env (.IfExp c a b pos) S envJ (fun k => fc fun x p1 => if x = true then fa p1 fun y p2 => k y (ja p1 p2) else fb p1 fun y p3 => k y (jb p1 p3)) :=
  fun C F H σs es σ k ω Q hK hl hr hk q => tE.of X (pe_ifExp (ptC X) (peC X) (peC X)) (hc C F H σs es σ _ ω _ hK hl hr hk fun x p1 F' H' hk' h' => by
    cases x with
    | true => rw [if_pos rfl] at hk' ⊢; exact ha p1 C F' H' σs es σ _ ω Q hK hl h' hk' fun y p2 u F2 H2 hk2 h2 => q y (ja p1 p2) u F2 H2 hk2 (ER.sub h2 (.keep ((hs p1 p2).pre es)))
    | false => rw [if_neg Bool.false_ne_true] at hk' ⊢; exact hb p1 C F' H' σs es σ _ ω Q hK hl h' hk' fun y p3 u F2 H2 hk2 h2 => q y (jb p1 p3) u F2 H2 hk2 (ER.sub h2 (.keep ((hs3 p1 p3).pre es))))
end
end Z

set_option Elab.async false
set_option linter.all false
set_option maxRecDepth 100000
namespace Z
open PySem PySem.Spec PyProof.Rows L2
/-! ### x[i][j] of a list of own lists -/
theorem ER.unpin {α : Type} {C : Ck} {F H : Hp} {σ : List (Option V)} {env : Env} {w : Option V} {Sa : Stor α} {xs : List α} {i : Nat} {q : Addr} {vs : List V} (h : ER C F H σ env) (e : env[i]? = some (.st w (List α) (pinL Sa q vs) xs)) : ER C F H σ (env.set i (.st w (List α) (ls Sa) xs)) := by
  obtain ⟨v, fp, e1, r, nd, ow, fin⟩ := h.mut e
  obtain ⟨fps, rfl, hq, ra, rfl⟩ := r
  exact fin (List α) (ls Sa) xs H (q :: fps) (fun _ _ _ => rfl) (fun _ m => m) ⟨q, vs, fps, rfl, hq, ra, rfl⟩ nd fun a m => ⟨(ow a m).2.2, .inl m⟩
section
variable {X : Cx} {R I Ω : Type} {SR : Stor R} {envR : I → Env} {kr : R → I → Option Ω} {bk ct : Lp Ω} {env : Env} {nm : Str} {pos sp np : Pos} {e ie je : Expr} {rest : List Stmt} {P0 P1 P2 α : Type} {E : Enc α} {J : Type} {envJ : J → Env}
theorem lx_ixM {fi : (Int → P1 → Option Ω) → Option Ω} {fj : P1 → (Int → P2 → Option Ω) → Option Ω} {e1 : P1 → Env} {e2 : Addr → List V → P1 → P2 → Env} {w : Option V} {xs : List (List α)} (i : Nat) (h0 : env[i]? = some (.st w (List (List α)) (ls (ls (it E))) xs))
    (hi : LX X env ie (it eI) e1 fi) (h1 : ∀ p, (e1 p)[i]? = some (.st w (List (List α)) (ls (ls (it E))) xs)) (hj : ∀ q vs p, LX X ((e1 p).set i (.st w (List (List α)) (pinL (ls (it E)) q vs) xs)) je (it eI) (e2 q vs p) (fj p)) (h2 : ∀ q vs p p2, e2 q vs p p2 = (e1 p).set i (.st w (List (List α)) (pinL (ls (it E)) q vs) xs))
    (hN : X.N[i]? = some nm := by rfl) (hv : Vis X.env.scope nm := by first | exact Or.inl rfl | exact Or.inr (Or.inl rfl) | exact Or.inr (Or.inr rfl))
    (hd : (nm == ("__debug__" : Str)) = false := by decide) (hcd : (nm == ("__classdict__" : Str)) = false := by decide) (hp : PlainIx ie := by exact fun _ _ => rfl) (hp2 : PlainIx je := by exact fun _ _ => rfl) :
    LX X env (.Subscript (.Subscript (.Name nm np) ie sp) je pos) (it E) e1 (fun k => fi fun a p => (ixN xs.length a).bind fun n => fj p fun b _ => (atI (xs.getD n []) b).bind fun y => k y p) :=
  fun C F H σs es σ k ω Q hK hl h hk q => tE.of X (pe_ix ix_list (pe_ix ix_list (pe_var hN hv hd hcd) (peC X) hp) (peC X) hp2) (by
    obtain ⟨l, fp, e1', r⟩ := h.lookF hl h0
    refine ⟨l, e1', hi C F H σs es σ _ ω _ hK hl h hk fun j p u F' H' hk' h' => ?_⟩
    have hu : u = .int j := by
      obtain ⟨v', fp, e1, r⟩ := h'.look (i := 0) rfl
      simp at e1; subst e1
      obtain ⟨_, r⟩ := r
      cases r; rfl
    subst hu
    have h3 : ER C F' H' (σs ++ σ) (es ++ e1 p) := h'.pop
    obtain ⟨n, hn, hk'⟩ := bind_some hk'
    obtain ⟨l', fp', e3, r1⟩ := h3.lookF hl (h1 p)
    rw [e1'] at e3; cases e3
    obtain ⟨q1, vs1, fps, rfl, _, _, _⟩ := r1
    obtain ⟨vs, h3p⟩ := h3.pin (i := es.length + i) (q1 := q1) (by rw [at_app _ rfl]; exact h1 p) (by rw [at_app _ hl]; exact e1')
    rw [List.set_append_right _ _ (Nat.le_add_right _ _), Nat.add_sub_cancel_left] at h3p
    have hil : i < (e1 p).length := lt_of_get (h1 p)
    obtain ⟨l5, fp5, e5, r5⟩ := h3p.lookF (i := i) hl (by rw [List.getElem?_set_self hil])
    rw [e1'] at e5; cases e5
    obtain ⟨fps5, _, hq, ra, _⟩ := r5
    have hlen := ra.length
    have hnl : n < xs.length := ixN_lt' hn
    have hx : xs[n]? = some (xs.getD n []) := by rw [List.getElem?_eq_getElem hnl, List.getD_eq_getElem?_getD, List.getElem?_eq_getElem hnl]; rfl
    obtain ⟨fp1, fq, fp2, v, efp, hvn, rv, _⟩ := ra.split hx
    obtain ⟨q2, ws, fps2, rfl, hq2, rw2, rfl⟩ := rv
    refine ⟨q1, vs, j, .ref q2, rfl, rfl, SqL.of hq, by unfold atI; rw [hlen, hn]; exact hvn, ?_⟩
    refine hj q1 vs p C F' H' σs es σ _ ω _ hK hl h3p hk' fun b p2 v F2 H2 hk2 h4 => ?_
    obtain ⟨y, hy, hk2⟩ := bind_some hk2
    have hv2 : v = .int b := by
      obtain ⟨v', fp, e1, r⟩ := h4.look (i := 0) rfl
      simp at e1; subst e1
      obtain ⟨_, r⟩ := r
      cases r; rfl
    subst hv2
    have h5 : ER C F2 H2 (σs ++ σ) (es ++ (e1 p).set i (.st w (List (List α)) (pinL (ls (it E)) q1 vs) xs)) := by have := h4.pop; rw [h2 q1 vs p p2] at this; exact this
    obtain ⟨l6, fp6, e6, r6⟩ := h5.lookF (i := i) hl (by rw [List.getElem?_set_self hil])
    rw [e1'] at e6; cases e6
    obtain ⟨fps6, _, hq6, ra6, _⟩ := r6
    obtain ⟨gp1, gq, gp2, v6, egp, hvn6, rv6, _⟩ := ra6.split hx
    rw [hvn] at hvn6; cases hvn6
    obtain ⟨q4, ws4, fps4, e7, hq4, rw4, rfl⟩ := rv6
    cases e7
    obtain ⟨w', hw', rw'⟩ := rw4.zero.2.at hy
    have h6 : ER C F2 H2 (σs ++ σ) (es ++ e1 p) := by
      have := h5.unpin (i := es.length + i) (by rw [at_app _ rfl, List.getElem?_set_self hil])
      rw [List.set_append_right _ _ (Nat.le_add_right _ _), Nat.add_sub_cancel_left, List.set_set] at this
      have e8 : (e1 p).set i (.st w (List (List α)) (ls (ls (it E))) xs) = e1 p := by
        refine List.ext_getElem? fun m => ?_
        rw [List.getElem?_set]
        split
        · rename_i z; subst z; exact (h1 p).symm
        · rfl
      rw [e8] at this; exact this
    exact ⟨q2, ws4, b, w', rfl, rfl, by rw [← hK]; exact SqL.of hq4, hw', q y p w' F2 H2 hk2 (h6.pushSh rw')⟩)
/-- x[i][j] = e, x a list of own lists -/
theorem lb_setIx2 {f : (α → P0 → Option Ω) → Option Ω} {fi : α → P0 → (Int → P1 → Option Ω) → Option Ω} {fj : α → P0 → P1 → (Int → P2 → Option Ω) → Option Ω} {fr : α → P0 → Int → P1 → Int → P2 → List (List α) → (J → Option Ω) → Option Ω} {e0 : P0 → Env} {e1 : α → P0 → P1 → Env} {e2 : Addr → List V → α → P0 → P1 → P2 → Env} {w : Option V} {xs : α → P0 → P1 → List (List α)} {x0 : P0 → List (List α)} (i : Nat)
    (he : LX X env e (it E) e0 f) (h0 : ∀ p, (e0 p)[i]? = some (.st w (List (List α)) (ls (ls (it E))) (x0 p))) (hi : ∀ y p, LX X (e0 p) ie (it eI) (e1 y p) (fi y p)) (h1 : ∀ y p p1, (e1 y p p1)[i]? = some (.st w (List (List α)) (ls (ls (it E))) (xs y p p1)))
    (hj : ∀ q vs y p p1, LX X ((e1 y p p1).set i (.st w (List (List α)) (pinL (ls (it E)) q vs) (xs y p p1))) je (it eI) (e2 q vs y p p1) (fj y p p1)) (h2 : ∀ q vs y p p1 p2, (e2 q vs y p p1 p2)[i]? = some (.st w (List (List α)) (pinL (ls (it E)) q vs) (xs y p p1)))
    (hr : ∀ q vs y p a p1 b p2 zs, LB X SR envR kr bk ct ((e2 q vs y p p1 p2).set i (.st w (List (List α)) (ls (ls (it E))) zs)) rest envJ (fr y p a p1 b p2 zs))
    (hN : X.N[i]? = some nm := by rfl) (hv : Vis X.env.scope nm := by first | exact Or.inl rfl | exact Or.inr (Or.inl rfl) | exact Or.inr (Or.inr rfl))
    (hd : (nm == ("__debug__" : Str)) = false := by decide) (hcd : (nm == ("__classdict__" : Str)) = false := by decide) (hp : PlainIx ie := by exact fun _ _ => rfl)
    (ha2 : ∀ v, assign (.Subscript (.Subscript (.Name nm np) ie sp) je pos) X.env v = (do
      let ov ← holding [v] (eval (.Subscript (.Name nm np) ie sp) X.env)
      let iv ← holding [v, ov] (eval je X.env)
      standAt pos
      holding [v, ov, iv] (setItem ov iv v)
      release [v, ov, iv] []) := by intro _; rfl)
    {spos : Pos} (hs : swapsWithSole [.Subscript (.Subscript (.Name nm np) ie sp) je pos] e spos.line X.env = pure false := by rfl) (hw : swappedStores [.Subscript (.Subscript (.Name nm np) ie sp) je pos] e X.env = pure none := by rfl) (ha1 : (assignEach [.Subscript (.Subscript (.Name nm np) ie sp) je pos] X.env).map (·.2) = [assign (.Subscript (.Subscript (.Name nm np) ie sp) je pos) X.env] := by rfl) :
    LB X SR envR kr bk ct env (.Assign [.Subscript (.Subscript (.Name nm np) ie sp) je pos] e spos :: rest) envJ (fun kn => f fun y p => fi y p fun a p1 => (ixN (xs y p p1).length a).bind fun n => fj y p p1 fun b p2 => (ixN ((xs y p p1).getD n []).length b).bind fun m => fr y p a p1 b p2 ((xs y p p1).set n (((xs y p p1).getD n []).set m y)) kn) :=
  fun C F H σs es σ kn ω D hK hl h hk qn qb qc qr => tSs.of X (pss_cons (ps_asg (peC X) (pg_sub (pe_ix ix_list (pe_var hN hv hd hcd) (peC X) hp) (peC X) set_list ha2) hs hw ha1) (pssC X)) (he C F H σs es σ _ ω _ hK hl h hk fun y p v F' H' hk' h' => by
    obtain ⟨l, fp, e3, r⟩ := h'.pop.lookF hl (h0 p)
    refine ⟨l, e3, hi y p C F' H' (some v :: σs) (.st none α (it E) y :: es) σ _ ω _ hK (by simp [hl]) h' hk' fun a p1 u F2 H2 hk2 h3 => ?_⟩
    obtain ⟨n, hn, hk2⟩ := bind_some hk2
    have hu : u = .int a := by
      obtain ⟨v', fp, e1, r⟩ := h3.look (i := 0) rfl
      simp at e1; subst e1
      obtain ⟨_, r⟩ := r
      cases r; rfl
    subst hu
    have h4 : ER C F2 H2 ((some v :: σs) ++ σ) ((.st none α (it E) y :: es) ++ e1 y p p1) := h3.pop
    obtain ⟨l', fp', e4, r1⟩ := h4.lookF (i := i) (by simp [hl]) (h1 y p p1)
    rw [e3] at e4; cases e4
    obtain ⟨q1, vs1, fps, rfl, _, _, _⟩ := r1
    obtain ⟨vs, h4p⟩ := h4.pin (i := (.st none α (it E) y :: es : Env).length + i) (q1 := q1) (by rw [at_app _ rfl]; exact h1 y p p1) (by rw [at_app _ (by simp [hl])]; exact e3)
    rw [List.set_append_right _ _ (Nat.le_add_right _ _), Nat.add_sub_cancel_left] at h4p
    have hil : i < (e1 y p p1).length := lt_of_get (h1 y p p1)
    obtain ⟨l5, fp5, e5, r5⟩ := h4p.lookF (i := i) (by simp [hl]) (by rw [List.getElem?_set_self hil])
    rw [e3] at e5; cases e5
    obtain ⟨fps5, _, hq, ra, _⟩ := r5
    have hlen := ra.length
    have hnl : n < (xs y p p1).length := ixN_lt' hn
    have hx : (xs y p p1)[n]? = some ((xs y p p1).getD n []) := by rw [List.getElem?_eq_getElem hnl, List.getD_eq_getElem?_getD, List.getElem?_eq_getElem hnl]; rfl
    obtain ⟨fp1, fq, fp2, v5, efp, hvn, rv, _⟩ := ra.split hx
    obtain ⟨q2, ws, fps2, rfl, hq2, rw2, rfl⟩ := rv
    refine ⟨q1, vs, a, .ref q2, rfl, rfl, SqL.of hq, by unfold atI; rw [hlen, hn]; exact hvn, ?_⟩
    refine hj q1 vs y p p1 C F2 H2 (some v :: σs) (.st none α (it E) y :: es) σ _ ω _ hK (by simp [hl]) h4p hk2 fun b p2 v6 F3 H3 hk3 h5 => ?_
    obtain ⟨m, hm, hk3⟩ := bind_some hk3
    have hv6 : v6 = .int b := by
      obtain ⟨v', fp, e1, r⟩ := h5.look (i := 0) rfl
      simp at e1; subst e1
      obtain ⟨_, r⟩ := r
      cases r; rfl
    subst hv6
    have ry : Rep C.K F3 v (E.enc y) := by
      obtain ⟨v', fp, e1, r⟩ := h5.look (i := 1) rfl
      simp at e1; subst e1
      exact r.2
    have h6 : ER C F3 H3 (σs ++ σ) (es ++ e2 q1 vs y p p1 p2) := h5.pop.pop
    obtain ⟨l2, fp3, e6, r3, nd, ow, fin⟩ := h6.mut (i := es.length + i) (by rw [at_app _ rfl]; exact h2 q1 vs y p p1 p2)
    rw [at_app _ hl, e3] at e6
    cases e6
    obtain ⟨fps3, _, hq3, ra3, rfl⟩ := r3
    obtain ⟨gp1, gq, gp2, v3, egp, hvn3, rv3, put⟩ := ra3.split hx
    rw [hvn] at hvn3; cases hvn3
    obtain ⟨q4, ws4, fps4, e7, hq4, rw4, rfl⟩ := rv3
    cases e7
    subst egp
    obtain ⟨rfl, rp4⟩ := rw4.zero
    have hlen4 : ws4.length = ((xs y p p1).getD n []).length := by have := rp4.length; simpa using this
    refine ⟨q2, ws4, b, m, rfl, rfl, hq4, by rw [hlen4]; exact hm, ?_⟩
    have n1 : q1 ≠ q2 := fun z => by
      have := (List.nodup_cons.mp nd).1
      exact this (by rw [z]; simp)
    have nm1 : q2 ∉ gp1 ∧ q2 ∉ gp2 := by
      have := (List.nodup_cons.mp nd).2
      rw [List.nodup_append] at this
      obtain ⟨_, h2, h3⟩ := this
      exact ⟨fun m => h3 q2 m q2 (by simp) rfl, fun m => (List.nodup_cons.mp h2).1 (by simpa using m)⟩
    have fin' := fin (List (List α)) (ls (ls (it E))) ((xs y p p1).set n (((xs y p p1).getD n []).set m y)) (upd H3 q2 (.lst (ws4.set m v))) (q1 :: (gp1 ++ ([q2] ++ gp2))) (fun a na _ => upd_ne fun z => na (by rw [z]; simp)) (fun a m => ?_) ⟨q1, vs, _, rfl, by rw [upd_ne n1]; exact hq3, put _ [q2] _ (fun fr w y s z => Stor.frame _ (fun a m => upd_ne fun z => by
        rcases s a m with m | m
        · exact nm1.1 (z ▸ m)
        · exact nm1.2 (z ▸ m)) z) ⟨q2, ws4.set m v, [], rfl, upd_same, ?_, rfl⟩, rfl⟩ nd (fun a m => ?_)
    · rw [List.set_append_right _ _ (Nat.le_add_right _ _), Nat.add_sub_cancel_left] at fin'
      exact hr q1 vs y p a p1 b p2 _ C F3 _ σs es σ kn ω D hK hl fin' hk3 qn qb qc qr
    · by_cases z : a = q2
      · subst z; rw [upd_same]; exact fun z => by cases z
      · rw [upd_ne z]; exact m
    · have := rp4.set ry (i := m)
      rw [← List.map_set] at this
      exact this.zero
    · refine ⟨?_, .inl m⟩
      by_cases z : a = q2
      · subst z; rw [upd_same]; exact fun z => by cases z
      · rw [upd_ne z]; exact (ow a m).2.2)
end
end Z

set_option Elab.async false
set_option linter.all false
set_option maxRecDepth 100000
namespace Z
open PySem PySem.Spec PyProof.Rows L2
/-! ### lending: a def reads its first argument's object, and gives back nothing of it -/
def spL (K : Fg) {A T R : Type} (ST : Stor T) (sl : A → Env) (SR : Stor R) (m : T → A → Option R) : Sp := fun vs H Q _ => ∃ (B F : Hp) (t : T) (a : A) (r : R) (v0 : V) (vs' : List V), vs = v0 :: vs' ∧ m t a = some r ∧ (vs'.map some).length = (sl a).length ∧
  ER ⟨K, B, F, H, []⟩ F H (vs.map some) (.lk T ST t :: sl a) ∧ ∀ F' H' v, ER ⟨K, B, F, H, []⟩ F' H' [some v] [.st none R SR r] → Q v H'
section
variable {P : Program} {w : World} {K : Fg} {mg : Str → Option Value} {base : Heap}
theorem fnL {x qual : Str} {st : Stmt} {f : Addr} {fd : FuncData} {N ps : List Str} {k : Nat} {A T R : Type} {ST : Stor T} {sl : A → Env} {SR : Stor R} {m : T → A → Option R} (F : Fun K x qual st f fd) (S : FnScope N ps (defScope st)) (n : Nat) (hn : N.length - ps.length = n) (hl : ∀ a, (sl a).length + 1 = ps.length)
    (hb : ∀ (cdv : Value) (A' : Around) (outer : List PySem.Env) (s : Shared) (H : Hp) (E : XK), Room k (A'.deeper (envOfC qual (defScope st) s.heap.objs.size f cdv)) → ∀ (t : T) (a : A),
      LB (cxOf CX0 P w K mg base N qual (defScope st) f cdv A' outer s H E).nox SR (fun _ : Unit => List.replicate (ps.length + n) .un) (fun (r : R) (_ : Unit) => some r) (noLp R) (noLp R) (.lk T ST t :: (sl a ++ List.replicate n .un)) (defBody st) (fun z : Empty => z.elim) (fun _ => m t a)) :
    FnOk P w K mg base CX0 (k + 1) f fd ps (spL K ST sl SR m) := by
  have hlen : ∀ vs H Q E, spL K ST sl SR m vs H Q E → vs.length = ps.length := fun vs H Q E h => by
    obtain ⟨B, F0, t, a, r, v0, vs', rfl, _, h2, _⟩ := h
    rw [List.length_map] at h2; rw [List.length_cons, h2, hl a]
  refine F.ok S hlen fun cdv A' outer s H vs Q E hr h => ?_
  have hlv := hlen vs H Q E h
  obtain ⟨B, F0, t, a, r, v0, vs', rfl, hm, _, her, q⟩ := h
  refine ⟨_, pssC _, ?_⟩
  have hst : L2.start N (v0 :: vs') = (v0 :: vs').map some ++ List.replicate n none := by unfold L2.start; rw [hlv, hn]
  rw [hst]
  refine hb cdv A' outer s H E hr t a ⟨K, B, F0, H, []⟩ F0 H [] [] _ (fun z => z.elim) r { nx := fun _ H' => Q .non H', rt := Q } rfl rfl (her.padR n) hm (fun z => z.elim) (fun z => z.elim) (fun z => z.elim) ?_
  intro a' i v F' H' σ' e h'
  cases e
  exact q F' H' v h'.head
end
section
variable {X : Cx} {Ω : Type} {env : Env} {nm vn : Str} {pos np vp sp : Pos} {e ie : Expr} {xs : List Expr} {Pt A R T : Type} {SR : Stor R} {ST : Stor T} {e' : Pt → Env} {sl : A → Env} {k : Nat} {f : Addr} {fd : FuncData} {ps : List Str}
theorem ER.enterL {C : Ck} {F H : Hp} {σ : List (Option V)} {env : Env} {w : Option V} {t : T} {v0 : V} {i : Nat} {σa : List (Option V)} {ea : Env} (h : ER C F H (σa ++ σ) (ea ++ env)) (hl : σa.length = ea.length) (sh : ShE ea) (hi : env[i]? = some (.st w T ST t)) (hv : σ[i]? = some (some v0)) : ER ⟨C.K, H, F, H, []⟩ F H (some v0 :: σa) (.lk T ST t :: ea) := by
  have h0 : ER C F H σ env := h.popN hl
  obtain ⟨fp, q⟩ := h0.sl
  have hil := lt_of_get hi
  obtain ⟨v', e1, rr, _⟩ := q.ok i _ hi
  rw [hv] at e1
  simp at e1; subst e1
  have he := h.enter hl sh
  obtain ⟨fe, qe⟩ := he.sl
  exact ⟨he.sB, he.sF, he.gr, he.up, by simp [he.len], _, qe.push (fq := []) ⟨rfl, v0, fp i, rfl, rr, fun a m => (q.own i hil a m).2.2⟩ (fun _ m => nomatch m) List.nodup_nil fun _ _ _ _ m => nomatch m⟩
theorem ER.enterLK {C : Ck} {F H : Hp} {σ : List (Option V)} {env : Env} {t : T} {v0 : V} {i : Nat} {σa : List (Option V)} {ea : Env} (h : ER C F H (σa ++ σ) (ea ++ env)) (hl : σa.length = ea.length) (sh : ShE ea) (hi : env[i]? = some (.lk T ST t)) (hv : σ[i]? = some (some v0)) : ER ⟨C.K, H, F, H, []⟩ F H (some v0 :: σa) (.lk T ST t :: ea) := by
  have h0 : ER C F H σ env := h.popN hl
  obtain ⟨fp, q⟩ := h0.sl
  obtain ⟨_, v', fq, e1, rr, hB⟩ := q.ok i _ hi
  rw [hv] at e1
  simp at e1; subst e1
  have he := h.enter hl sh
  obtain ⟨fe, qe⟩ := he.sl
  exact ⟨he.sB, he.sF, he.gr, he.up, by simp [he.len], _, qe.push (fq := []) ⟨rfl, v0, fq, rfl, rr, fun a m => same_some h0.sB (hB a m)⟩ (fun _ m => nomatch m) List.nodup_nil fun _ _ _ _ m => nomatch m⟩
/-- f(x, ..), f reads x's object -/
theorem lx_callL {w : Option V} {t0 : T} {t : Pt → T} {m : T → A → Option R} {fa : (A → Pt → Option Ω) → Option Ω} (i : Nat) (Fn : FnOk X.prog X.w X.K X.mg X.base CX0 k f fd ps (spL X.K ST sl SR m)) (hr : Room k X.A) (hm : X.mg nm = some (.ref f)) (hk : PySem.W.keepIn X.K (.ref f) = true) (hb : Binds X.K fd ps []) (sh : ∀ a, ShE (sl a))
    (h0 : env[i]? = some (.st w T ST t0)) (ha : LA X env xs sl e' fa) (h1 : ∀ p, (e' p)[i]? = some (.st w T ST (t p))) (hN : X.N[i]? = some vn := by rfl) (hv : Vis X.env.scope vn := by first | exact Or.inl rfl | exact Or.inr (Or.inl rfl) | exact Or.inr (Or.inr rfl)) (hd : (vn == ("__debug__" : Str)) = false := by decide) (hcd : (vn == ("__classdict__" : Str)) = false := by decide)
    (hg : Gl X nm := by rfl) (hdb : (nm == ("__debug__" : Str)) = false := by decide) (he : starEach (Expr.Name vn vp :: xs) X.env = (false, eval (Expr.Name vn vp) X.env) :: starEach xs X.env := by rfl) (hpl : (backTo pos (starEach xs X.env)).any (·.1) = false := by rfl) :
    LX X env (.Call (.Name nm np) (.Name vn vp :: xs) [] pos) SR e' (fun k => fa fun a p => (m (t p) a).bind fun r => k r p) :=
  fun C F H σs es σ k ω Q hK hl h hk' q => tE.of X (pe_call Fn hr hg hm hk hb .nil pass0 (paC X) hdb he hpl) (la_lend i h0 hN hv ha hd hcd he C F H σs es σ _ ω _ hK hl h hk' fun a p v0 vs F' H' hk2 hv0 hlv h' => by
    obtain ⟨r, hm', hk2⟩ := bind_some hk2
    show spL X.K ST sl SR m (v0 :: vs ++ []) H' Q _
    rw [List.append_nil, ← hK]
    have h2 : ER C F' H' (vs.map some ++ (σs ++ σ)) (sl a ++ (es ++ e' p)) := h'
    refine ⟨H', F', t p, a, r, v0, vs, rfl, hm', hlv, h2.enterL (i := es.length + i) hlv (sh a) (by rw [at_app _ rfl]; exact h1 p) (by rw [at_app _ hl]; exact hv0), fun F2 H2 v h3 => ?_⟩
    obtain ⟨F3, h4⟩ := (h'.popN hlv).back h3
    exact q r p v F3 H2 hk2 h4)
theorem la_lendK {P : Type} {τ : Type} {S : Stor τ} {e' : P → Env} {fr : (A → P → Option Ω) → Option Ω} (i : Nat) {x : τ} (he : env[i]? = some (.lk τ S x)) (hN : X.N[i]? = some nm) (hv : Vis X.env.scope nm) (h2 : LA X env xs sl e' fr) (hd : (nm == ("__debug__" : Str)) = false := by decide) (hcd : (nm == ("__classdict__" : Str)) = false := by decide)
    (hs : starEach (Expr.Name nm pos :: xs) X.env = (false, eval (Expr.Name nm pos) X.env) :: starEach xs X.env := by rfl) :
    ∀ (C : Ck) (F H : Hp) (σs : List (Option V)) (es : Env) (σ : List (Option V)) (k : A → P → Option Ω) (ω : Ω) (Q : List V → Hp → Prop), C.K = X.K → σs.length = es.length → ER C F H (σs ++ σ) (es ++ env) → fr k = some ω →
    (∀ a p (v : V) (vs : List V) F' H', k a p = some ω → σ[i]? = some (some v) → (vs.map some).length = (sl a).length → ER C F' H' (vs.map some ++ (σs ++ σ)) (sl a ++ (es ++ e' p)) → Q (v :: vs) H') → tAs X (Expr.Name nm pos :: xs) σ H Q :=
  fun C F H σs es σ k ω Q hK hl h hk q => tAs.of X (pa_cons (peC X) (paC X) hs) (tE.of X (pe_var hN hv hd hcd) (by
    obtain ⟨v, fp, e1, r⟩ := h.lookKF hl he
    exact ⟨v, e1, h2 C F H σs es σ k ω _ hK hl h hk fun a p vs F' H' hk' hlv h' => q a p v vs F' H' hk' e1 hlv h'⟩))
/-- .. x itself lent -/
theorem lx_callLK {t0 : T} {m : T → A → Option R} {fa : (A → Pt → Option Ω) → Option Ω} (i : Nat) (Fn : FnOk X.prog X.w X.K X.mg X.base CX0 k f fd ps (spL X.K ST sl SR m)) (hr : Room k X.A) (hm : X.mg nm = some (.ref f)) (hk : PySem.W.keepIn X.K (.ref f) = true) (hb : Binds X.K fd ps []) (sh : ∀ a, ShE (sl a))
    (h0 : env[i]? = some (.lk T ST t0)) (ha : LA X env xs sl e' fa) (h1 : ∀ p, (e' p)[i]? = some (.lk T ST t0)) (hN : X.N[i]? = some vn := by rfl) (hv : Vis X.env.scope vn := by first | exact Or.inl rfl | exact Or.inr (Or.inl rfl) | exact Or.inr (Or.inr rfl)) (hd : (vn == ("__debug__" : Str)) = false := by decide) (hcd : (vn == ("__classdict__" : Str)) = false := by decide)
    (hg : Gl X nm := by rfl) (hdb : (nm == ("__debug__" : Str)) = false := by decide) (he : starEach (Expr.Name vn vp :: xs) X.env = (false, eval (Expr.Name vn vp) X.env) :: starEach xs X.env := by rfl) (hpl : (backTo pos (starEach xs X.env)).any (·.1) = false := by rfl) :
    LX X env (.Call (.Name nm np) (.Name vn vp :: xs) [] pos) SR e' (fun k => fa fun a p => (m t0 a).bind fun r => k r p) :=
  fun C F H σs es σ k ω Q hK hl h hk' q => tE.of X (pe_call Fn hr hg hm hk hb .nil pass0 (paC X) hdb he hpl) (la_lendK i h0 hN hv ha hd hcd he C F H σs es σ _ ω _ hK hl h hk' fun a p v0 vs F' H' hk2 hv0 hlv h' => by
    obtain ⟨r, hm', hk2⟩ := bind_some hk2
    show spL X.K ST sl SR m (v0 :: vs ++ []) H' Q _
    rw [List.append_nil, ← hK]
    have h2 : ER C F' H' (vs.map some ++ (σs ++ σ)) (sl a ++ (es ++ e' p)) := h'
    refine ⟨H', F', t0, a, r, v0, vs, rfl, hm', hlv, h2.enterLK (i := es.length + i) hlv (sh a) (by rw [at_app _ rfl]; exact h1 p) (by rw [at_app _ hl]; exact hv0), fun F2 H2 v h3 => ?_⟩
    obtain ⟨F3, h4⟩ := (h'.popN hlv).back h3
    exact q r p v F3 H2 hk2 h4)
/-- x[i], x a lent list of lists -/
theorem lo_ixK {α : Type} {E : Enc α} {P1 : Type} {e1 : P1 → Env} {fi : (Int → P1 → Option Ω) → Option Ω} {ys : List (List α)} (i : Nat) (h0 : env[i]? = some (.lk (List (List α)) (ls (ls (it E))) ys)) (hi : LX X env ie (it eI) e1 fi) (h1 : ∀ p, (e1 p)[i]? = some (.lk (List (List α)) (ls (ls (it E))) ys))
    (hN : X.N[i]? = some nm := by rfl) (hv : Vis X.env.scope nm := by first | exact Or.inl rfl | exact Or.inr (Or.inl rfl) | exact Or.inr (Or.inr rfl)) (hd : (nm == ("__debug__" : Str)) = false := by decide) (hcd : (nm == ("__classdict__" : Str)) = false := by decide) (hp : PlainIx ie := by exact fun _ _ => rfl) :
    LO X (fun en => en[i]? = some (.lk (List (List α)) (ls (ls (it E))) ys)) env (.Subscript (.Name nm np) ie sp) (ls (it E)) e1 (fun k => fi fun a p => (ixN ys.length a).bind fun n => k (ys.getD n []) p) := by
  have look : ∀ {C : Ck} {F H : Hp} {σq : List (Option V)} {eq env2 : Env} {σ : List (Option V)}, σq.length = eq.length → ER C F H (σq ++ σ) (eq ++ env2) → env2[i]? = some (.lk (List (List α)) (ls (ls (it E))) ys) → ∃ q1 vs fps, σ[i]? = some (some (V.ref q1)) ∧ H q1 = some (.lst vs) ∧ C.B q1 = some (.lst vs) ∧ RelAll ((ls (it E)).rel C.K F H) fps vs ys := by
    intro C F H σq eq env2 σ hl h hg
    obtain ⟨fp, q⟩ := h.sl
    obtain ⟨_, v, fq, e1, r, hB⟩ := q.ok (eq.length + i) _ (by rw [at_app _ rfl]; exact hg)
    rw [at_app _ hl] at e1
    obtain ⟨q1, vs, fps, rfl, hq, ra, rfl⟩ := r
    have b1 := hB q1 List.mem_cons_self
    refine ⟨q1, vs, fps, ?_, hq, ?_, ra⟩
    · cases z : σ[i]? with
      | none => rw [z] at e1; cases e1
      | some o => rw [z] at e1; exact congrArg some e1
    · rw [← same_eq h.sB b1]; exact hq
  refine fun C F H σs es σ k ω Q hK hl h hk q => tE.of X (pe_ix ix_list (pe_var hN hv hd hcd) (peC X) hp) ?_
  obtain ⟨q1, vs, fps, e1', _, b1, _⟩ := look hl h h0
  refine ⟨.ref q1, e1', hi C F H σs es σ _ ω _ hK hl h hk fun j p u F' H' hk' h' => ?_⟩
  have hu : u = .int j := by
    obtain ⟨v', fp, e1, r⟩ := h'.look (i := 0) rfl
    simp at e1; subst e1
    obtain ⟨_, r⟩ := r
    cases r; rfl
  subst hu
  have h3 : ER C F' H' (σs ++ σ) (es ++ e1 p) := h'.pop
  obtain ⟨n, hn, hk'⟩ := bind_some hk'
  obtain ⟨q1', vs', fps', e2, hq, b2, ra⟩ := look hl h3 (h1 p)
  rw [e1'] at e2; cases e2
  have hlen := ra.length
  have hnl : n < ys.length := ixN_lt' hn
  have hx : ys[n]? = some (ys.getD n []) := by rw [List.getElem?_eq_getElem hnl, List.getD_eq_getElem?_getD, List.getElem?_eq_getElem hnl]; rfl
  obtain ⟨fp1, fq, fp2, v, efp, hvn, rv, _⟩ := ra.split hx
  refine ⟨q1, vs', j, v, rfl, rfl, SqL.of hq, by unfold atI; rw [hlen, hn]; exact hvn, ?_⟩
  refine q (ys.getD n []) p v F' H' [] [] rfl hk' h3 fun F'' H'' σ2 e2 env2 hg hl2 h2 => ?_
  have h4 : ER C F'' H'' ((σ2 ++ σs) ++ σ) ((e2 ++ es) ++ env2) := by simpa [List.append_assoc] using h2
  obtain ⟨q3, vs3, fps3, e3, _, b3, ra3⟩ := look (by simp [hl, hl2]) h4 hg
  rw [e1'] at e3; cases e3
  rw [b2] at b3; cases b3
  obtain ⟨_, fq3, _, v3, _, hvn3, rv3, _⟩ := ra3.split hx
  rw [hvn] at hvn3; cases hvn3
  exact ⟨fq3, rv3⟩
/-! ### shared lists are lent as well -/
theorem rep_ls1 {α : Type} {E : Enc α} {K : Fg} {F H : Hp} {v : V} {x : List α} (s : Same F H) (h : Rep K F v ((eL E).enc x)) : ∃ fq, (ls (it E)).rel K F H fq v x ∧ ∀ a ∈ fq, F a ≠ none := by
  obtain ⟨p, vs, rfl, hF, ra⟩ := Rep.lst_inv h
  exact ⟨[p], ⟨p, vs, [], rfl, s _ _ hF, ra.zero, rfl⟩, fun a m => by simp at m; subst m; rw [hF]; exact fun z => by cases z⟩
theorem rep_all1 {α : Type} {E : Enc α} {K : Fg} {F H : Hp} (s : Same F H) : ∀ {vs : List V} {x : List (List α)}, RepAll K F vs (x.map (eL E).enc) → ∃ fq, RelAll ((ls (it E)).rel K F H) fq vs x ∧ ∀ a ∈ fq, F a ≠ none
  | [], [], _ => ⟨[], .nil, fun _ m => nomatch m⟩
  | [], _ :: _, h => by cases h
  | _ :: _, [], h => by cases h
  | v :: vs, y :: ys, h => by
    cases h with
    | cons h1 h2 =>
      obtain ⟨f1, r1, n1⟩ := rep_ls1 s h1
      obtain ⟨f2, r2, n2⟩ := rep_all1 s h2
      exact ⟨f1 ++ f2, .cons r1 r2, fun a m => (List.mem_append.1 m).elim (n1 a) (n2 a)⟩
theorem rep_ls2 {α : Type} {E : Enc α} {K : Fg} {F H : Hp} {v : V} {x : List (List α)} (s : Same F H) (h : Rep K F v ((eL (eL E)).enc x)) : ∃ fq, (ls (ls (it E))).rel K F H fq v x ∧ ∀ a ∈ fq, F a ≠ none := by
  obtain ⟨p, vs, rfl, hF, ra⟩ := Rep.lst_inv h
  obtain ⟨fq, r, n⟩ := rep_all1 s ra
  refine ⟨p :: fq, ⟨p, vs, fq, rfl, s _ _ hF, r, rfl⟩, fun a m => ?_⟩
  rcases List.mem_cons.1 m with rfl | m
  · rw [hF]; exact fun z => by cases z
  · exact n a m
/-- f(e, ..), f reads the shared list that e tells -/
theorem lx_callLS {α : Type} {E : Enc α} {m : List (List α) → A → Option R} {fa : ((List (List α) × A) → Pt → Option Ω) → Option Ω} (Fn : FnOk X.prog X.w X.K X.mg X.base CX0 k f fd ps (spL X.K (ls (ls (it E))) sl SR m)) (hr : Room k X.A) (hm : X.mg nm = some (.ref f)) (hk : PySem.W.keepIn X.K (.ref f) = true) (hb : Binds X.K fd ps []) (sh : ∀ a, ShE (sl a))
    (ha : LA X env (e :: xs) (fun a : List (List α) × A => .st none (List (List α)) (it (eL (eL E))) a.1 :: sl a.2) e' fa) (hg : Gl X nm := by rfl) (hdb : (nm == ("__debug__" : Str)) = false := by decide) (he : starEach (e :: xs) X.env = (false, eval e X.env) :: starEach xs X.env := by rfl) (hpl : (backTo pos (starEach xs X.env)).any (·.1) = false := by rfl) :
    LX X env (.Call (.Name nm np) (e :: xs) [] pos) SR e' (fun k => fa fun a p => (m a.1 a.2).bind fun r => k r p) :=
  fun C F H σs es σ k ω Q hK hl h hk' q => tE.of X (pe_call Fn hr hg hm hk hb .nil pass0 (paC X) hdb he hpl) (ha C F H σs es σ _ ω _ hK hl h hk' fun a p vs F' H' hk2 hlv h' => by
    obtain ⟨r, hm', hk3⟩ := bind_some hk2
    obtain ⟨t, a⟩ := a
    show spL X.K (ls (ls (it E))) sl SR m (vs ++ []) H' Q _
    rw [List.append_nil, ← hK]
    match vs, hlv with
    | v0 :: vs, hlv =>
      have hlv2 : (vs.map some).length = (sl a).length := by simpa using hlv
      have hall := h'.enter (σa := (v0 :: vs).map some) (ea := .st none (List (List α)) (it (eL (eL E))) t :: sl a) hlv (.cons cp_it (sh a))
      have hsub := h'.pop.enter hlv2 (sh a)
      obtain ⟨fe, qe⟩ := hsub.sl
      obtain ⟨v1, e1, r1⟩ := hall.rep (i := 0) rfl
      simp at e1; subst e1
      obtain ⟨fq, rr, nn⟩ := rep_ls2 hall.sF r1
      refine ⟨H', F', t, a, r, v0, vs, rfl, hm', hlv2, ⟨hsub.sB, hsub.sF, hsub.gr, hsub.up, by simp [hsub.len], _, qe.push (fq := []) ⟨rfl, v0, fq, rfl, rr, fun a m => same_some hall.sF (nn a m)⟩ (fun _ m => nomatch m) List.nodup_nil fun _ _ _ _ m => nomatch m⟩, fun F2 H2 v h3 => ?_⟩
      obtain ⟨F3, h4⟩ := (h'.popN hlv).back h3
      exact q r p v F3 H2 hk3 h4)
end
/-- a tuple of one -/
def eT1 {α : Type} (A : Enc α) : Enc α := ⟨fun a => .tuple [A.enc a], fun a b h => by
  injection h with h
  simp only [List.cons.injEq, and_true] at h
  exact A.inj _ _ h⟩
section
variable {X : Cx} {Ω : Type} {env : Env} {nm : Str} {pos : Pos} {a b c e : Expr} {xs rest : List Expr} {P P1 P2 P3 A : Type} {τ τ1 τ2 α β : Type} {S : Stor τ} {S1 : Stor τ1} {S2 : Stor τ2} {E : Enc τ} {E1 : Enc τ1} {E2 : Enc τ2}
/-- a or b, a and b, where b changes things: what is left is told by j -/
theorem lw_orJ {Pj : Type} (envJ : Pj → Env) {e1 : P1 → Env} {e2 : P1 → P2 → Env} {fa : (Bool → P1 → Option Ω) → Option Ω} {fb : P1 → (Bool → P2 → Option Ω) → Option Ω} (ha : LT X env a e1 fa) (hb : ∀ p1, LW X (e1 p1) (.BoolOp .Or (b :: rest) pos) (e2 p1) (fb p1)) (ja : P1 → Pj) (jb : P1 → P2 → Pj) (hs : ∀ p1, Sub (e1 p1) (envJ (ja p1))) (hs2 : ∀ p1 p2, Sub (e2 p1 p2) (envJ (jb p1 p2))) :
    LW X env (.BoolOp .Or (a :: b :: rest) pos) envJ (fun k => fa fun x p1 => if x = true then k true (ja p1) else fb p1 fun y p2 => k y (jb p1 p2)) :=
  fun C F H σs es σ k ω Q hK hl hr hk q => tW.of X (pw_or (ptC X) (pwC X)) (ha C F H σs es σ _ ω _ hK hl hr hk fun x p1 F' H' hk' h' => by
    cases x with
    | true => rw [if_pos rfl] at hk' ⊢; exact q true (ja p1) F' H' hk' (h'.subF (hs p1))
    | false => rw [if_neg Bool.false_ne_true] at hk' ⊢; exact hb p1 C F' H' σs es σ _ ω Q hK hl h' hk' fun y p2 F2 H2 hk2 h2 => q y (jb p1 p2) F2 H2 hk2 (h2.subF (hs2 p1 p2)))
theorem lw_andJ {Pj : Type} (envJ : Pj → Env) {e1 : P1 → Env} {e2 : P1 → P2 → Env} {fa : (Bool → P1 → Option Ω) → Option Ω} {fb : P1 → (Bool → P2 → Option Ω) → Option Ω} (ha : LT X env a e1 fa) (hb : ∀ p1, LW X (e1 p1) (.BoolOp .And (b :: rest) pos) (e2 p1) (fb p1)) (ja : P1 → Pj) (jb : P1 → P2 → Pj) (hs : ∀ p1, Sub (e1 p1) (envJ (ja p1))) (hs2 : ∀ p1 p2, Sub (e2 p1 p2) (envJ (jb p1 p2))) :
    LW X env (.BoolOp .And (a :: b :: rest) pos) envJ (fun k => fa fun x p1 => if x = true then fb p1 fun y p2 => k y (jb p1 p2) else k false (ja p1)) :=
  fun C F H σs es σ k ω Q hK hl hr hk q => tW.of X (pw_and (ptC X) (pwC X)) (ha C F H σs es σ _ ω _ hK hl hr hk fun x p1 F' H' hk' h' => by
    cases x with
    | true => rw [if_pos rfl] at hk' ⊢; exact hb p1 C F' H' σs es σ _ ω Q hK hl h' hk' fun y p2 F2 H2 hk2 h2 => q y (jb p1 p2) F2 H2 hk2 (h2.subF (hs2 p1 p2))
    | false => rw [if_neg Bool.false_ne_true] at hk' ⊢; exact q false (ja p1) F' H' hk' (h'.subF (hs p1)))
end
section
variable {X : Cx} {Ω : Type} {env : Env} {nm : Str} {pos sp np fp0 : Pos} {ie : Expr} {P1 α : Type} {E : Enc α}
/-- len(x[i]), x a list of own lists -/
theorem lx_lenIx {fi : (Int → P1 → Option Ω) → Option Ω} {e1 : P1 → Env} {w : Option V} {xs : List (List α)} (i : Nat) (hm : X.mg "len" = none) (h0 : env[i]? = some (.st w (List (List α)) (ls (ls (it E))) xs))
    (hi : LX X env ie (it eI) e1 fi) (h1 : ∀ p, (e1 p)[i]? = some (.st w (List (List α)) (ls (ls (it E))) xs))
    (hN : X.N[i]? = some nm := by rfl) (hv : Vis X.env.scope nm := by first | exact Or.inl rfl | exact Or.inr (Or.inl rfl) | exact Or.inr (Or.inr rfl))
    (hd : (nm == ("__debug__" : Str)) = false := by decide) (hcd : (nm == ("__classdict__" : Str)) = false := by decide) (hp : PlainIx ie := by exact fun _ _ => rfl)
    (hg : Gl X "len" := by rfl) (he : starEach (Expr.Subscript (.Name nm np) ie sp :: []) X.env = (false, eval (Expr.Subscript (.Name nm np) ie sp) X.env) :: starEach [] X.env := by rfl) (hpl : (backTo pos (starEach [] X.env)).any (·.1) = false := by rfl) :
    LX X env (.Call (.Name "len" fp0) [.Subscript (.Name nm np) ie sp] [] pos) (it eI) e1 (fun k => fi fun a p => (ixN xs.length a).bind fun n => k ((xs.getD n []).length : Int) p) :=
  fun C F H σs es σ k ω Q hK hl h hk q => tE.of X (pe_callB call_len_seq hg hm PySem.boot_len (pa_cons (pe_ix ix_list (pe_var hN hv hd hcd) (peC X) hp) pa_nil he) (by decide) (by decide) he hpl) (by
    obtain ⟨l, fp, e1', r⟩ := h.lookF hl h0
    refine ⟨l, e1', hi C F H σs es σ _ ω _ hK hl h hk fun j p u F' H' hk' h' => ?_⟩
    have hu : u = .int j := by
      obtain ⟨v', fp, e1, r⟩ := h'.look (i := 0) rfl
      simp at e1; subst e1
      obtain ⟨_, r⟩ := r
      cases r; rfl
    subst hu
    have h3 : ER C F' H' (σs ++ σ) (es ++ e1 p) := h'.pop
    obtain ⟨n, hn, hk'⟩ := bind_some hk'
    obtain ⟨l', fp', e3, r1⟩ := h3.lookF hl (h1 p)
    rw [e1'] at e3; cases e3
    obtain ⟨q1, vs, fps, rfl, hq, ra, rfl⟩ := r1
    have hlen := ra.length
    have hnl : n < xs.length := ixN_lt' hn
    have hx : xs[n]? = some (xs.getD n []) := by rw [List.getElem?_eq_getElem hnl, List.getD_eq_getElem?_getD, List.getElem?_eq_getElem hnl]; rfl
    obtain ⟨fp1, fq, fp2, v, efp, hvn, rv, _⟩ := ra.split hx
    obtain ⟨q2, ws, fps2, rfl, hq2, rw2, rfl⟩ := rv
    have hlen2 := rw2.length
    refine ⟨q1, vs, j, .ref q2, rfl, rfl, SqL.of hq, by unfold atI; rw [hlen, hn]; exact hvn, ?_⟩
    exact ⟨q2, ws, rfl, .inl (SqL.of hq2), by rw [hlen2]; exact q _ p _ F' H' hk' (h3.pushSh (.int _))⟩)
end
end Z

set_option Elab.async false
set_option linter.all false
set_option maxRecDepth 100000
namespace Z
open PySem PySem.Spec PyProof.Rows L2
/-! ### instances whose fields hold shared data -/
def insS {τ : Type} (c : Addr) (ns : List Str) (f : τ → List PyData) : Stor τ where
  rel := fun K F H fp v x => ∃ p dx vs, v = .ref p ∧ H p = some (.ins c dx (ns.zip vs)) ∧ vs.length = ns.length ∧ RepAll K F vs (f x) ∧ fp = [p]
  monoF := fun s h => by
    obtain ⟨p, dx, vs, rfl, hp, hl, r, rfl⟩ := h
    exact ⟨p, dx, vs, rfl, hp, hl, r.mono s, rfl⟩
  frame := fun g h => by
    obtain ⟨p, dx, vs, rfl, hp, hl, r, rfl⟩ := h
    exact ⟨p, dx, vs, rfl, by rw [g p (by simp)]; exact hp, hl, r, rfl⟩
theorem zip_look : ∀ {ns : List Str} {vs : List V} {j : Nat} {nm : Str} {v : V}, ns.Nodup → ns[j]? = some nm → vs[j]? = some v → (ns.zip vs).lookup nm = some v
  | [], _, _, _, _, _, h, _ => by simp at h
  | _ :: _, [], _, _, _, _, _, h => by simp at h
  | n :: ns, u :: vs, 0, nm, v, _, h, h2 => by
    simp at h h2; subst h; subst h2
    show (match (n == n) with | true => some u | false => _) = _
    rw [beq_self_eq_true]
  | n :: ns, u :: vs, j + 1, nm, v, nd, h, h2 => by
    have ne : nm ≠ n := fun z => (List.nodup_cons.1 nd).1 (by rw [← z]; exact List.mem_of_getElem? (by simpa using h))
    show (match (nm == n) with | true => some u | false => (ns.zip vs).lookup nm) = _
    rw [beq_false_of_ne ne]
    exact zip_look (List.nodup_cons.1 nd).2 (by simpa using h) (by simpa using h2)
theorem zip_no : ∀ {ns : List Str} {vs : List V} {nm : Str}, nm ∉ ns → (ns.zip vs).lookup nm = none
  | [], _, _, _ => rfl
  | _ :: _, [], _, _ => rfl
  | n :: ns, u :: vs, nm, h => by
    have ne : nm ≠ n := fun z => h (by rw [z]; exact List.mem_cons_self)
    show (match (nm == n) with | true => some u | false => (ns.zip vs).lookup nm) = _
    rw [beq_false_of_ne ne]
    exact zip_no fun m => h (List.mem_cons_of_mem _ m)
theorem putF_nil (nm : Str) (v : V) : putF nm v [] = [(nm, v)] := rfl
theorem putF_cons (nm n : Str) (v u : V) (r : List (Str × V)) : putF nm v ((n, u) :: r) = if n = nm then (n, v) :: r else (n, u) :: putF nm v r := rfl
theorem putF_new : ∀ {ns : List Str} {vs : List V} {nm : Str} {v : V}, nm ∉ ns → vs.length = ns.length → putF nm v (ns.zip vs) = (ns ++ [nm]).zip (vs ++ [v])
  | [], [], nm, v, _, _ => putF_nil nm v
  | [], _ :: _, _, _, _, h => by simp at h
  | _ :: _, [], _, _, _, h => by simp at h
  | n :: ns, u :: vs, nm, v, h, hl => by
    have ne : ¬ n = nm := fun z => h (by rw [z]; exact List.mem_cons_self)
    show putF nm v ((n, u) :: ns.zip vs) = (n, u) :: (ns ++ [nm]).zip (vs ++ [v])
    rw [putF_cons, if_neg ne, putF_new (fun m => h (List.mem_cons_of_mem _ m)) (by simpa using hl)]
theorem putF_old : ∀ {ns : List Str} {vs : List V} {j : Nat} {nm : Str} {v : V}, ns.Nodup → ns[j]? = some nm → vs.length = ns.length → putF nm v (ns.zip vs) = ns.zip (vs.set j v)
  | [], _, _, _, _, _, h, _ => by simp at h
  | _ :: _, [], _, _, _, _, _, h => by simp at h
  | n :: ns, u :: vs, 0, nm, v, _, h, _ => by
    simp at h; subst h
    show putF n v ((n, u) :: ns.zip vs) = (n, v) :: ns.zip vs
    rw [putF_cons, if_pos rfl]
  | n :: ns, u :: vs, j + 1, nm, v, nd, h, hl => by
    have ne : ¬ n = nm := fun z => (List.nodup_cons.1 nd).1 (by rw [z]; exact List.mem_of_getElem? (by simpa using h))
    show putF nm v ((n, u) :: ns.zip vs) = (n, u) :: ns.zip (vs.set j v)
    rw [putF_cons, if_neg ne, putF_old (List.nodup_cons.1 nd).2 (by simpa using h) (by simpa using hl)]
section
variable {X : Cx} {Ω : Type} {env : Env} {nm fn : Str} {np ap pos : Pos} {τ τ' α P : Type} {E : Enc α} {c : Addr} {ns ns' : List Str} {f : τ → List PyData} {f' : τ' → List PyData} {x : τ} {y : α} {w : Option V} {e : Expr} {e' : P → Env}
/-- x.f, x an instance -/
theorem lx_fld (i j : Nat) (cl : Cls X.K c) (na : NoAttr X.K c fn) (h0 : env[i]? = some (.st w τ (insS c ns f) x)) (hj : ns[j]? = some fn) (hy : (f x)[j]? = some (E.enc y)) (nd : ns.Nodup := by decide +kernel) (hN : X.N[i]? = some nm := by rfl) (hv : Vis X.env.scope nm := by first | exact Or.inl rfl | exact Or.inr (Or.inl rfl) | exact Or.inr (Or.inr rfl))
    (hd : (nm == ("__debug__" : Str)) = false := by decide) (hcd : (nm == ("__classdict__" : Str)) = false := by decide) (hb : attributeBase (.Name nm np) fn X.env (eval (.Name nm np) X.env) = eval (.Name nm np) X.env := by rfl) :
    LX X env (.Attribute (.Name nm np) fn ap) (it E) (fun _ : Unit => env) (fun (k : α → Unit → Option Ω) => k y ()) := by
  refine fun C F H σs es σ k ω Q hK hl h hk q => tE.of X (pe_fld (pe_var hN hv hd hcd) hb) ?_
  obtain ⟨v, fp, e1, r⟩ := h.lookF hl h0
  obtain ⟨p, dx, vs, rfl, hp, hlen, ra, rfl⟩ := r
  obtain ⟨u, hu, ru⟩ := ra.get hy
  exact ⟨.ref p, e1, p, c, dx, _, u, rfl, hp, cl, na, zip_look nd hj hu, q y () u F H hk (h.pushSh ru)⟩
/-- .. x lent -/
theorem lx_fldK (i j : Nat) (cl : Cls X.K c) (na : NoAttr X.K c fn) (h0 : env[i]? = some (.lk τ (insS c ns f) x)) (hj : ns[j]? = some fn) (hy : (f x)[j]? = some (E.enc y)) (nd : ns.Nodup := by decide +kernel) (hN : X.N[i]? = some nm := by rfl) (hv : Vis X.env.scope nm := by first | exact Or.inl rfl | exact Or.inr (Or.inl rfl) | exact Or.inr (Or.inr rfl))
    (hd : (nm == ("__debug__" : Str)) = false := by decide) (hcd : (nm == ("__classdict__" : Str)) = false := by decide) (hb : attributeBase (.Name nm np) fn X.env (eval (.Name nm np) X.env) = eval (.Name nm np) X.env := by rfl) :
    LX X env (.Attribute (.Name nm np) fn ap) (it E) (fun _ : Unit => env) (fun (k : α → Unit → Option Ω) => k y ()) := by
  refine fun C F H σs es σ k ω Q hK hl h hk q => tE.of X (pe_fld (pe_var hN hv hd hcd) hb) ?_
  obtain ⟨v, fp, e1, r⟩ := h.lookKF hl h0
  obtain ⟨p, dx, vs, rfl, hp, hlen, ra, rfl⟩ := r
  obtain ⟨u, hu, ru⟩ := ra.get hy
  exact ⟨.ref p, e1, p, c, dx, _, u, rfl, hp, cl, na, zip_look nd hj hu, q y () u F H hk (h.pushSh ru)⟩
end
section
variable {X : Cx} {Ω : Type} {env : Env} {nm fn : Str} {np ap pos : Pos} {τ τ' α P R I J : Type} {E : Enc α} {c : Addr} {ns ns' : List Str} {f : τ → List PyData} {f' : τ' → List PyData} {w : Option V} {e : Expr} {e' : P → Env} {SR : Stor R} {envR : I → Env} {kr : R → I → Option Ω} {bk ct : Lp Ω} {rest : List Stmt} {envJ : J → Env}
/-- x.f = e -/
theorem lb_fld0 {fe : (α → P → Option Ω) → Option Ω} {fr : α → P → (J → Option Ω) → Option Ω} {t : P → τ} (i : Nat) (u : α → P → τ') (cl : Cls X.K c) (na : NoAttr X.K c fn) (he : LX X env e (it E) e' fe) (h1 : ∀ p, (e' p)[i]? = some (.st w τ (insS c ns f) (t p)))
    (hput : ∀ y p (K : Fg) (F : Hp) vs v, vs.length = ns.length → RepAll K F vs (f (t p)) → Rep K F v (E.enc y) → ∃ vs', vs'.length = ns'.length ∧ putF fn v (ns.zip vs) = ns'.zip vs' ∧ RepAll K F vs' (f' (u y p))) (hsz : ns.length < 1000)
    (hr : ∀ y p, LB X SR envR kr bk ct ((e' p).set i (.st w τ' (insS c ns' f') (u y p))) rest envJ (fr y p))
    (hN : X.N[i]? = some nm := by rfl) (hv : Vis X.env.scope nm := by first | exact Or.inl rfl | exact Or.inr (Or.inl rfl) | exact Or.inr (Or.inr rfl)) (hd : (nm == ("__debug__" : Str)) = false := by decide) (hcd : (nm == ("__classdict__" : Str)) = false := by decide)
    (hs : swapsWith e (some (.Attribute (.Name nm np) fn ap)) pos.line X.env = pure false := by rfl) :
    LB X SR envR kr bk ct env (.Assign [.Attribute (.Name nm np) fn ap] e pos :: rest) envJ (fun kn => fe fun y p => fr y p kn) :=
  fun C F H σs es σ kn ω D hK hl h hk qn qb qc qr => tSs.of X (pss_cons (ps_fld (pe_var hN hv hd hcd) (peC X) hs) (pssC X)) (he C F H σs es σ _ ω _ hK hl h hk fun y p v F' H' hk' h' => by
    have hvy : Rep C.K F' v (E.enc y) := by
      obtain ⟨v', fp, e1, r⟩ := h'.look (i := 0) rfl
      simp at e1; subst e1
      exact r.2
    obtain ⟨l, fp, e1, r1, nd, ow, fin⟩ := (ER.pop h').mut (i := es.length + i) (by rw [at_app _ rfl]; exact h1 p)
    rw [at_app _ hl] at e1
    obtain ⟨p0, dx, vs, rfl, hp, hlen, ra, rfl⟩ := r1
    obtain ⟨vs', hl', hpt, ra'⟩ := hput y p C.K F' vs v hlen ra hvy
    refine ⟨_, e1, p0, c, dx, _, rfl, hp, cl, na, by rw [List.length_zip, hlen, Nat.min_self]; exact hsz, ?_⟩
    rw [hpt]
    have fin' := fin τ' (insS c ns' f') (u y p) (upd H' p0 (.ins c dx (ns'.zip vs'))) [p0] (fun a na _ => upd_ne fun z => na (by rw [z]; simp)) (fun a m => ?_) ⟨p0, dx, vs', rfl, upd_same, hl', ra', rfl⟩ (by simp) (fun a m => ?_)
    · rw [List.set_append_right _ _ (Nat.le_add_right _ _), Nat.add_sub_cancel_left] at fin'
      exact hr y p C F' _ σs es σ kn ω D hK hl fin' hk' qn qb qc qr
    · by_cases z : a = p0
      · subst z; rw [upd_same]; exact fun z => by cases z
      · rw [upd_ne z]; exact m
    · simp at m; subst m
      exact ⟨by rw [upd_same]; exact (fun z => by cases z), .inl (by simp)⟩)
/-- .. a field that is there -/
theorem lb_fldO {fe : (α → P → Option Ω) → Option Ω} {fr : α → P → (J → Option Ω) → Option Ω} {t : P → τ} (i j : Nat) (u : α → P → τ) (cl : Cls X.K c) (na : NoAttr X.K c fn) (he : LX X env e (it E) e' fe) (h1 : ∀ p, (e' p)[i]? = some (.st w τ (insS c ns f) (t p)))
    (hj : ns[j]? = some fn) (hu : ∀ y p, f (u y p) = (f (t p)).set j (E.enc y))
    (hr : ∀ y p, LB X SR envR kr bk ct ((e' p).set i (.st w τ (insS c ns f) (u y p))) rest envJ (fr y p))
    (nd : ns.Nodup := by decide +kernel) (hsz : ns.length < 1000 := by decide)
    (hN : X.N[i]? = some nm := by rfl) (hv : Vis X.env.scope nm := by first | exact Or.inl rfl | exact Or.inr (Or.inl rfl) | exact Or.inr (Or.inr rfl)) (hd : (nm == ("__debug__" : Str)) = false := by decide) (hcd : (nm == ("__classdict__" : Str)) = false := by decide)
    (hs : swapsWith e (some (.Attribute (.Name nm np) fn ap)) pos.line X.env = pure false := by rfl) :
    LB X SR envR kr bk ct env (.Assign [.Attribute (.Name nm np) fn ap] e pos :: rest) envJ (fun kn => fe fun y p => fr y p kn) :=
  lb_fld0 i u cl na he h1 (fun y p K F vs v hl ra rv => ⟨vs.set j v, by rw [List.length_set]; exact hl, putF_old nd hj hl, by rw [hu]; exact ra.set rv⟩) hsz hr hN hv hd hcd hs
/-- .. a new field -/
theorem lb_fldN {fe : (α → P → Option Ω) → Option Ω} {fr : α → P → (J → Option Ω) → Option Ω} {t : P → τ} (i : Nat) (f' : τ' → List PyData) (u : α → P → τ') (cl : Cls X.K c) (na : NoAttr X.K c fn) (he : LX X env e (it E) e' fe) (h1 : ∀ p, (e' p)[i]? = some (.st w τ (insS c ns f) (t p)))
    (hu : ∀ y p, f' (u y p) = f (t p) ++ [E.enc y])
    (hr : ∀ y p, LB X SR envR kr bk ct ((e' p).set i (.st w τ' (insS c (ns ++ [fn]) f') (u y p))) rest envJ (fr y p))
    (hno : fn ∉ ns := by decide +kernel) (hsz : ns.length < 1000 := by decide)
    (hN : X.N[i]? = some nm := by rfl) (hv : Vis X.env.scope nm := by first | exact Or.inl rfl | exact Or.inr (Or.inl rfl) | exact Or.inr (Or.inr rfl)) (hd : (nm == ("__debug__" : Str)) = false := by decide) (hcd : (nm == ("__classdict__" : Str)) = false := by decide)
    (hs : swapsWith e (some (.Attribute (.Name nm np) fn ap)) pos.line X.env = pure false := by rfl) :
    LB X SR envR kr bk ct env (.Assign [.Attribute (.Name nm np) fn ap] e pos :: rest) envJ (fun kn => fe fun y p => fr y p kn) :=
  lb_fld0 i u cl na he h1 (fun y p K F vs v hl ra rv => ⟨vs ++ [v], by simp [hl], putF_new hno hl, by rw [hu]; exact ra.app (.cons rv .nil)⟩) hsz hr hN hv hd hcd hs
/-- return -/
theorem lb_retN {kr : Unit → I → Option Ω} {pos : Pos} (g : I) (hs : Sub env (envR g)) : LB X (it eN) envR kr bk ct env (.Return none pos :: rest) envJ (fun _ => kr () g) :=
  fun C F H σs es σ kn ω D hK hl h hk qn qb qc qr => tSs.of X (pss_cons ps_retN (pssC X)) (qr () g .non F H σ hk (ER.sub (h.pushSh .non) (.keep (hs.pre es))))
end
/-! ### methods -/
section
variable {X : Cx} {Ω : Type} {env : Env} {vn mn : Str} {pos ap vp : Pos} {e : Expr} {xs : List Expr} {Pt A R T : Type} {SR : Stor R} {e' : Pt → Env} {sl : A → Env} {k : Nat} {f c : Addr} {fd : FuncData} {ps ns : List Str} {g : T → List PyData}
/-- x.f(..), f changes x -/
theorem lx_methI {w : Option V} {t0 : T} {t : Pt → T} {m : T → A → Option (R × T)} {fa : (A → Pt → Option Ω) → Option Ω} {pl : Sem Bool} (i : Nat) (cl : Cls X.K c) (hm : Meth X.K c mn f) (Fn : FnOk X.prog X.w X.K X.mg X.base CX0 k f fd ps (spI X.K (insS c ns g) sl SR m)) (hr : Room k X.A) (hb : Binds X.K fd ps []) (sh : ∀ a, ShE (sl a))
    (h0 : env[i]? = some (.st w T (insS c ns g) t0)) (ha : LA X env (e :: xs) sl e' fa) (h1 : ∀ p, (e' p)[i]? = some (.st w T (insS c ns g) (t p))) (hno : mn ∉ ns := by decide +kernel) (hN : X.N[i]? = some vn := by rfl) (hv : Vis X.env.scope vn := by first | exact Or.inl rfl | exact Or.inr (Or.inl rfl) | exact Or.inr (Or.inr rfl)) (hd : (vn == ("__debug__" : Str)) = false := by decide) (hcd : (vn == ("__classdict__" : Str)) = false := by decide)
    (he : starEach (e :: xs) X.env = (false, eval e X.env) :: starEach xs X.env := by rfl) (hpl : (backTo pos (starEach xs X.env)).any (·.1) = false := by rfl) (ht : eval (.Call (.Attribute (.Name vn vp) mn ap) (e :: xs) [] pos) X.env = (do let ov ← eval (.Name vn vp) X.env; standAt ap.atName; let (f, first) ← holding [ov] (getMethod ov mn pl); callWith pos f first (backTo pos (starEach (e :: xs) X.env)) (backToKw pos (keywordEach [] X.env))) := by rfl) :
    LX X env (.Call (.Attribute (.Name vn vp) mn ap) (e :: xs) [] pos) SR (fun p : Pt × T => (e' p.1).set i (.st w T (insS c ns g) p.2)) (fun k => fa fun a p => (m (t p) a).bind fun r => k r.1 (p, r.2)) :=
  fun C F H σs es σ k ω Q hK hl h hk' q => tE.of X (pe_meth (pe_var hN hv hd hcd) cl hm Fn hr hb .nil pass0 (paC X) he hpl ht) (by
    obtain ⟨v0, fp, e1, r⟩ := h.lookF hl h0
    obtain ⟨p0, dx, vs0, rfl, hp, hlen, ra, rfl⟩ := r
    refine ⟨.ref p0, e1, p0, dx, _, rfl, hp, zip_no hno, ha C F H σs es σ _ ω _ hK hl h hk' fun a p vs F' H' hk2 hlv h' => ?_⟩
    obtain ⟨⟨r, t'⟩, hm', hk2⟩ := bind_some hk2
    show spI X.K (insS c ns g) sl SR m (.ref p0 :: vs ++ []) H' Q _
    rw [List.append_nil, ← hK]
    have h2 : ER C F' H' (vs.map some ++ (σs ++ σ)) (sl a ++ (es ++ e' p)) := h'
    obtain ⟨B, io, g1, g2⟩ := h2.enterI (i := es.length + i) (v0 := .ref p0) hlv (sh a) (by rw [at_app _ rfl]; exact h1 p) (by rw [at_app _ hl]; exact e1)
    refine ⟨B, F', io, t p, a, r, t', .ref p0, vs, rfl, hm', hlv, g1, fun F2 H2 v h3 => ?_⟩
    obtain ⟨F3, h4⟩ := g2 R SR r t' F2 H2 v h3
    rw [List.set_append_right _ _ (Nat.le_add_right _ _), Nat.add_sub_cancel_left] at h4
    exact q r (p, t') v F3 H2 hk2 h4)
theorem lx_methI0 {w : Option V} {t0 : T} {m : T → Unit → Option (R × T)} {pl : Sem Bool} (i : Nat) (cl : Cls X.K c) (hm : Meth X.K c mn f) (Fn : FnOk X.prog X.w X.K X.mg X.base CX0 k f fd ps (spI X.K (insS c ns g) (fun _ : Unit => []) SR m)) (hr : Room k X.A) (hb : Binds X.K fd ps [])
    (h0 : env[i]? = some (.st w T (insS c ns g) t0)) (hno : mn ∉ ns := by decide +kernel) (hN : X.N[i]? = some vn := by rfl) (hv : Vis X.env.scope vn := by first | exact Or.inl rfl | exact Or.inr (Or.inl rfl) | exact Or.inr (Or.inr rfl)) (hd : (vn == ("__debug__" : Str)) = false := by decide) (hcd : (vn == ("__classdict__" : Str)) = false := by decide) (ht : eval (.Call (.Attribute (.Name vn vp) mn ap) [] [] pos) X.env = (do let ov ← eval (.Name vn vp) X.env; standAt ap.atName; let (f, first) ← holding [ov] (getMethod ov mn pl); callWith pos f first (backTo pos (starEach [] X.env)) (backToKw pos (keywordEach [] X.env))) := by rfl) :
    LX X env (.Call (.Attribute (.Name vn vp) mn ap) [] [] pos) SR (fun p : T => env.set i (.st w T (insS c ns g) p)) (fun (k : R → T → Option Ω) => (m t0 ()).bind fun r => k r.1 r.2) :=
  fun C F H σs es σ k ω Q hK hl h hk' q => tE.of X (pe_meth0 (pe_var hN hv hd hcd) cl hm Fn hr hb .nil pass0 ht) (by
    obtain ⟨v0, fp, e1, r⟩ := h.lookF hl h0
    obtain ⟨p0, dx, vs0, rfl, hp, hlen, ra, rfl⟩ := r
    refine ⟨.ref p0, e1, p0, dx, _, rfl, hp, zip_no hno, ?_⟩
    obtain ⟨⟨r, t'⟩, hm', hk2⟩ := bind_some hk'
    show spI X.K (insS c ns g) (fun _ : Unit => []) SR m [.ref p0] H Q E0
    rw [← hK]
    obtain ⟨B, io, g1, g2⟩ := ER.enterI (σa := []) (ea := []) (σ := σs ++ σ) (env := es ++ env) (i := es.length + i) (v0 := .ref p0) h rfl .nil (by rw [at_app _ rfl]; exact h0) (by rw [at_app _ hl]; exact e1)
    refine ⟨B, F, io, t0, (), r, t', .ref p0, [], rfl, hm', rfl, g1, fun F2 H2 v h3 => ?_⟩
    obtain ⟨F3, h4⟩ := g2 R SR r t' F2 H2 v h3
    rw [List.set_append_right _ _ (Nat.le_add_right _ _), Nat.add_sub_cancel_left] at h4
    exact q r t' v F3 H2 hk2 h4)
/-- x.f(..), f reads x -/
theorem lx_methL {w : Option V} {t0 : T} {t : Pt → T} {m : T → A → Option R} {fa : (A → Pt → Option Ω) → Option Ω} {pl : Sem Bool} (i : Nat) (cl : Cls X.K c) (hm : Meth X.K c mn f) (Fn : FnOk X.prog X.w X.K X.mg X.base CX0 k f fd ps (spL X.K (insS c ns g) sl SR m)) (hr : Room k X.A) (hb : Binds X.K fd ps []) (sh : ∀ a, ShE (sl a))
    (h0 : env[i]? = some (.st w T (insS c ns g) t0)) (ha : LA X env (e :: xs) sl e' fa) (h1 : ∀ p, (e' p)[i]? = some (.st w T (insS c ns g) (t p))) (hno : mn ∉ ns := by decide +kernel) (hN : X.N[i]? = some vn := by rfl) (hv : Vis X.env.scope vn := by first | exact Or.inl rfl | exact Or.inr (Or.inl rfl) | exact Or.inr (Or.inr rfl)) (hd : (vn == ("__debug__" : Str)) = false := by decide) (hcd : (vn == ("__classdict__" : Str)) = false := by decide)
    (he : starEach (e :: xs) X.env = (false, eval e X.env) :: starEach xs X.env := by rfl) (hpl : (backTo pos (starEach xs X.env)).any (·.1) = false := by rfl) (ht : eval (.Call (.Attribute (.Name vn vp) mn ap) (e :: xs) [] pos) X.env = (do let ov ← eval (.Name vn vp) X.env; standAt ap.atName; let (f, first) ← holding [ov] (getMethod ov mn pl); callWith pos f first (backTo pos (starEach (e :: xs) X.env)) (backToKw pos (keywordEach [] X.env))) := by rfl) :
    LX X env (.Call (.Attribute (.Name vn vp) mn ap) (e :: xs) [] pos) SR e' (fun k => fa fun a p => (m (t p) a).bind fun r => k r p) :=
  fun C F H σs es σ k ω Q hK hl h hk' q => tE.of X (pe_meth (pe_var hN hv hd hcd) cl hm Fn hr hb .nil pass0 (paC X) he hpl ht) (by
    obtain ⟨v0, fp, e1, r⟩ := h.lookF hl h0
    obtain ⟨p0, dx, vs0, rfl, hp, hlen, ra, rfl⟩ := r
    refine ⟨.ref p0, e1, p0, dx, _, rfl, hp, zip_no hno, ha C F H σs es σ _ ω _ hK hl h hk' fun a p vs F' H' hk2 hlv h' => ?_⟩
    obtain ⟨r, hm', hk2⟩ := bind_some hk2
    show spL X.K (insS c ns g) sl SR m (.ref p0 :: vs ++ []) H' Q _
    rw [List.append_nil, ← hK]
    have h2 : ER C F' H' (vs.map some ++ (σs ++ σ)) (sl a ++ (es ++ e' p)) := h'
    refine ⟨H', F', t p, a, r, .ref p0, vs, rfl, hm', hlv, h2.enterL (i := es.length + i) hlv (sh a) (by rw [at_app _ rfl]; exact h1 p) (by rw [at_app _ hl]; exact e1), fun F2 H2 v h3 => ?_⟩
    obtain ⟨F3, h4⟩ := (h'.popN hlv).back h3
    exact q r p v F3 H2 hk2 h4)
theorem lx_methL0 {w : Option V} {t0 : T} {m : T → Unit → Option R} {pl : Sem Bool} (i : Nat) (cl : Cls X.K c) (hm : Meth X.K c mn f) (Fn : FnOk X.prog X.w X.K X.mg X.base CX0 k f fd ps (spL X.K (insS c ns g) (fun _ : Unit => []) SR m)) (hr : Room k X.A) (hb : Binds X.K fd ps [])
    (h0 : env[i]? = some (.st w T (insS c ns g) t0)) (hno : mn ∉ ns := by decide +kernel) (hN : X.N[i]? = some vn := by rfl) (hv : Vis X.env.scope vn := by first | exact Or.inl rfl | exact Or.inr (Or.inl rfl) | exact Or.inr (Or.inr rfl)) (hd : (vn == ("__debug__" : Str)) = false := by decide) (hcd : (vn == ("__classdict__" : Str)) = false := by decide) (ht : eval (.Call (.Attribute (.Name vn vp) mn ap) [] [] pos) X.env = (do let ov ← eval (.Name vn vp) X.env; standAt ap.atName; let (f, first) ← holding [ov] (getMethod ov mn pl); callWith pos f first (backTo pos (starEach [] X.env)) (backToKw pos (keywordEach [] X.env))) := by rfl) :
    LX X env (.Call (.Attribute (.Name vn vp) mn ap) [] [] pos) SR (fun _ : Unit => env) (fun (k : R → Unit → Option Ω) => (m t0 ()).bind fun r => k r ()) :=
  fun C F H σs es σ k ω Q hK hl h hk' q => tE.of X (pe_meth0 (pe_var hN hv hd hcd) cl hm Fn hr hb .nil pass0 ht) (by
    obtain ⟨v0, fp, e1, r⟩ := h.lookF hl h0
    obtain ⟨p0, dx, vs0, rfl, hp, hlen, ra, rfl⟩ := r
    refine ⟨.ref p0, e1, p0, dx, _, rfl, hp, zip_no hno, ?_⟩
    obtain ⟨r, hm', hk2⟩ := bind_some hk'
    show spL X.K (insS c ns g) (fun _ : Unit => []) SR m [.ref p0] H Q E0
    rw [← hK]
    refine ⟨H, F, t0, (), r, .ref p0, [], rfl, hm', rfl, ER.enterL (σa := []) (ea := []) (σ := σs ++ σ) (env := es ++ env) (i := es.length + i) h rfl .nil (by rw [at_app _ rfl]; exact h0) (by rw [at_app _ hl]; exact e1), fun F2 H2 v h3 => ?_⟩
    obtain ⟨F3, h4⟩ := h.back h3
    exact q r () v F3 H2 hk2 h4)
/-- .. x lent itself -/
theorem lx_methK {t0 : T} {m : T → A → Option R} {fa : (A → Pt → Option Ω) → Option Ω} {pl : Sem Bool} (i : Nat) (cl : Cls X.K c) (hm : Meth X.K c mn f) (Fn : FnOk X.prog X.w X.K X.mg X.base CX0 k f fd ps (spL X.K (insS c ns g) sl SR m)) (hr : Room k X.A) (hb : Binds X.K fd ps []) (sh : ∀ a, ShE (sl a))
    (h0 : env[i]? = some (.lk T (insS c ns g) t0)) (ha : LA X env (e :: xs) sl e' fa) (h1 : ∀ p, (e' p)[i]? = some (.lk T (insS c ns g) t0)) (hno : mn ∉ ns := by decide +kernel) (hN : X.N[i]? = some vn := by rfl) (hv : Vis X.env.scope vn := by first | exact Or.inl rfl | exact Or.inr (Or.inl rfl) | exact Or.inr (Or.inr rfl)) (hd : (vn == ("__debug__" : Str)) = false := by decide) (hcd : (vn == ("__classdict__" : Str)) = false := by decide)
    (he : starEach (e :: xs) X.env = (false, eval e X.env) :: starEach xs X.env := by rfl) (hpl : (backTo pos (starEach xs X.env)).any (·.1) = false := by rfl) (ht : eval (.Call (.Attribute (.Name vn vp) mn ap) (e :: xs) [] pos) X.env = (do let ov ← eval (.Name vn vp) X.env; standAt ap.atName; let (f, first) ← holding [ov] (getMethod ov mn pl); callWith pos f first (backTo pos (starEach (e :: xs) X.env)) (backToKw pos (keywordEach [] X.env))) := by rfl) :
    LX X env (.Call (.Attribute (.Name vn vp) mn ap) (e :: xs) [] pos) SR e' (fun k => fa fun a p => (m t0 a).bind fun r => k r p) :=
  fun C F H σs es σ k ω Q hK hl h hk' q => tE.of X (pe_meth (pe_var hN hv hd hcd) cl hm Fn hr hb .nil pass0 (paC X) he hpl ht) (by
    obtain ⟨v0, fp, e1, r⟩ := h.lookKF hl h0
    obtain ⟨p0, dx, vs0, rfl, hp, hlen, ra, rfl⟩ := r
    refine ⟨.ref p0, e1, p0, dx, _, rfl, hp, zip_no hno, ha C F H σs es σ _ ω _ hK hl h hk' fun a p vs F' H' hk2 hlv h' => ?_⟩
    obtain ⟨r, hm', hk2⟩ := bind_some hk2
    show spL X.K (insS c ns g) sl SR m (.ref p0 :: vs ++ []) H' Q _
    rw [List.append_nil, ← hK]
    have h2 : ER C F' H' (vs.map some ++ (σs ++ σ)) (sl a ++ (es ++ e' p)) := h'
    refine ⟨H', F', t0, a, r, .ref p0, vs, rfl, hm', hlv, h2.enterLK (i := es.length + i) hlv (sh a) (by rw [at_app _ rfl]; exact h1 p) (by rw [at_app _ hl]; exact e1), fun F2 H2 v h3 => ?_⟩
    obtain ⟨F3, h4⟩ := (h'.popN hlv).back h3
    exact q r p v F3 H2 hk2 h4)
theorem lx_methK0 {t0 : T} {m : T → Unit → Option R} {pl : Sem Bool} (i : Nat) (cl : Cls X.K c) (hm : Meth X.K c mn f) (Fn : FnOk X.prog X.w X.K X.mg X.base CX0 k f fd ps (spL X.K (insS c ns g) (fun _ : Unit => []) SR m)) (hr : Room k X.A) (hb : Binds X.K fd ps [])
    (h0 : env[i]? = some (.lk T (insS c ns g) t0)) (hno : mn ∉ ns := by decide +kernel) (hN : X.N[i]? = some vn := by rfl) (hv : Vis X.env.scope vn := by first | exact Or.inl rfl | exact Or.inr (Or.inl rfl) | exact Or.inr (Or.inr rfl)) (hd : (vn == ("__debug__" : Str)) = false := by decide) (hcd : (vn == ("__classdict__" : Str)) = false := by decide) (ht : eval (.Call (.Attribute (.Name vn vp) mn ap) [] [] pos) X.env = (do let ov ← eval (.Name vn vp) X.env; standAt ap.atName; let (f, first) ← holding [ov] (getMethod ov mn pl); callWith pos f first (backTo pos (starEach [] X.env)) (backToKw pos (keywordEach [] X.env))) := by rfl) :
    LX X env (.Call (.Attribute (.Name vn vp) mn ap) [] [] pos) SR (fun _ : Unit => env) (fun (k : R → Unit → Option Ω) => (m t0 ()).bind fun r => k r ()) :=
  fun C F H σs es σ k ω Q hK hl h hk' q => tE.of X (pe_meth0 (pe_var hN hv hd hcd) cl hm Fn hr hb .nil pass0 ht) (by
    obtain ⟨v0, fp, e1, r⟩ := h.lookKF hl h0
    obtain ⟨p0, dx, vs0, rfl, hp, hlen, ra, rfl⟩ := r
    refine ⟨.ref p0, e1, p0, dx, _, rfl, hp, zip_no hno, ?_⟩
    obtain ⟨r, hm', hk2⟩ := bind_some hk'
    show spL X.K (insS c ns g) (fun _ : Unit => []) SR m [.ref p0] H Q E0
    rw [← hK]
    refine ⟨H, F, t0, (), r, .ref p0, [], rfl, hm', rfl, ER.enterLK (σa := []) (ea := []) (σ := σs ++ σ) (env := es ++ env) (i := es.length + i) h rfl .nil (by rw [at_app _ rfl]; exact h0) (by rw [at_app _ hl]; exact e1), fun F2 H2 v h3 => ?_⟩
    obtain ⟨F3, h4⟩ := h.back h3
    exact q r () v F3 H2 hk2 h4)
end
/-! ### making an instance -/
def insN (c : Addr) : Stor Unit := insS c [] fun _ : Unit => []
/-- the promise of __init__ -/
def spN (K : Fg) (c : Addr) {A T : Type} (sl : A → Env) (ST : Stor T) (m : A → Option T) : Sp := fun vs H Q _ => ∃ (B F : Hp) (io : List Addr) (a : A) (t : T) (v0 : V) (vs' : List V), vs = v0 :: vs' ∧ m a = some t ∧ (vs'.map some).length = (sl a).length ∧
  ER ⟨K, B, F, H, io⟩ F H (vs.map some) (.st (some v0) Unit (insN c) () :: sl a) ∧ ∀ F' H' v, ER ⟨K, B, F, H, io⟩ F' H' [some v, some v0] [.st none Unit (it eN) (), .st (some v0) T ST t] → Q v H'
section
variable {P : Program} {w : World} {K : Fg} {mg : Str → Option Value} {base : Heap}
/-- a def without an answer that changes its first argument: its body may end without a return -/
theorem fnI0 {x qual : Str} {st : Stmt} {f : Addr} {fd : FuncData} {N ps : List Str} {k : Nat} {A T : Type} {ST : Stor T} {sl : A → Env} {m : T → A → Option (Unit × T)} (F : Fun K x qual st f fd) (S : FnScope N ps (defScope st)) (n : Nat) (hn : N.length - ps.length = n) (hl : ∀ a, (sl a).length + 1 = ps.length)
    (hb : ∀ (cdv : Value) (A' : Around) (outer : List PySem.Env) (s : Shared) (H : Hp) (E : XK), Room k (A'.deeper (envOfC qual (defScope st) s.heap.objs.size f cdv)) → ∀ (v0 : V) (t : T) (a : A),
      ∃ f0 : (T → Option (Unit × T)) → Option (Unit × T), LB (cxOf CX0 P w K mg base N qual (defScope st) f cdv A' outer s H E).nox (it eN) (fun t' : T => .st (some v0) T ST t' :: List.replicate (N.length - 1) .un) (fun (r : Unit) (t' : T) => some (r, t')) (noLp (Unit × T)) (noLp (Unit × T)) (.st (some v0) T ST t :: (sl a ++ List.replicate n .un)) (defBody st) (fun t' : T => .st (some v0) T ST t' :: List.replicate (N.length - 1) .un) f0 ∧ f0 (fun t' => some ((), t')) = m t a) :
    FnOk P w K mg base CX0 (k + 1) f fd ps (spI K ST sl (it eN) m) := by
  have hlen : ∀ vs H Q E, spI K ST sl (it eN) m vs H Q E → vs.length = ps.length := fun vs H Q E h => by
    obtain ⟨B, F0, io, t, a, r, t', v0, vs', rfl, _, h2, _⟩ := h
    rw [List.length_map] at h2; rw [List.length_cons, h2, hl a]
  refine F.ok S hlen fun cdv A' outer s H vs Q E hr h => ?_
  have hlv := hlen vs H Q E h
  obtain ⟨B, F0, io, t, a, r, t', v0, vs', rfl, hm, _, her, q⟩ := h
  refine ⟨_, pssC _, ?_⟩
  have hst : L2.start N (v0 :: vs') = (v0 :: vs').map some ++ List.replicate n none := by unfold L2.start; rw [hlv, hn]
  rw [hst]
  obtain ⟨f0, hf, ef⟩ := hb cdv A' outer s H E hr v0 t a
  have fin : ∀ (i : T) v F' H' (σ' : List (Option V)), ER ⟨K, B, F0, H, io⟩ F' H' (some v :: σ') (.st none Unit (it eN) () :: .st (some v0) T ST i :: List.replicate (N.length - 1) .un) → i = t' → Q v H' := fun i v F' H' σ' h3 e => by
    subst e
    have hls : σ'.length = N.length - 1 + 1 := by have := h3.len; simpa using this
    cases σ' with
    | nil => simp at hls
    | cons o σ' =>
      have ho : o = some v0 := by
        obtain ⟨fp, qq⟩ := h3.sl
        obtain ⟨v', e1, _, e2⟩ := qq.ok 1 _ rfl
        simp at e1
        rw [e1, e2.1]
      subst ho
      exact q F' H' v h3.head2
  refine hf ⟨K, B, F0, H, io⟩ F0 H [] [] _ (fun t' => some ((), t')) ((), t') { nx := fun _ H' => Q .non H', rt := Q } rfl rfl (her.padR n) (ef.trans hm) (fun i F' H' σ' e h' => ?_) (fun z => z.elim) (fun z => z.elim) ?_
  · exact fin i .non F' H' σ' (ER.pushSh (E := eN) (x := ()) h' .non) (by cases e; rfl)
  · intro a' i v F' H' σ' e h'
    exact fin i v F' H' σ' h' (by cases e; rfl)
/-- __init__ -/
theorem fnN {x qual : Str} {st : Stmt} {f c : Addr} {fd : FuncData} {N ps : List Str} {k : Nat} {A T : Type} {ST : Stor T} {sl : A → Env} {m : A → Option T} (F : Fun K x qual st f fd) (S : FnScope N ps (defScope st)) (n : Nat) (hn : N.length - ps.length = n) (hl : ∀ a, (sl a).length + 1 = ps.length)
    (hb : ∀ (cdv : Value) (A' : Around) (outer : List PySem.Env) (s : Shared) (H : Hp) (E : XK), Room k (A'.deeper (envOfC qual (defScope st) s.heap.objs.size f cdv)) → ∀ (v0 : V) (a : A),
      ∃ f0 : (T → Option T) → Option T, LB (cxOf CX0 P w K mg base N qual (defScope st) f cdv A' outer s H E).nox (it eN) (fun t' : T => .st (some v0) T ST t' :: List.replicate (N.length - 1) .un) (fun (_ : Unit) (t' : T) => some t') (noLp T) (noLp T) (.st (some v0) Unit (insN c) () :: (sl a ++ List.replicate n .un)) (defBody st) (fun t' : T => .st (some v0) T ST t' :: List.replicate (N.length - 1) .un) f0 ∧ f0 some = m a) :
    FnOk P w K mg base CX0 (k + 1) f fd ps (spN K c sl ST m) := by
  have hlen : ∀ vs H Q E, spN K c sl ST m vs H Q E → vs.length = ps.length := fun vs H Q E h => by
    obtain ⟨B, F0, io, a, t, v0, vs', rfl, _, h2, _⟩ := h
    rw [List.length_map] at h2; rw [List.length_cons, h2, hl a]
  refine F.ok S hlen fun cdv A' outer s H vs Q E hr h => ?_
  have hlv := hlen vs H Q E h
  obtain ⟨B, F0, io, a, t', v0, vs', rfl, hm, _, her, q⟩ := h
  refine ⟨_, pssC _, ?_⟩
  have hst : L2.start N (v0 :: vs') = (v0 :: vs').map some ++ List.replicate n none := by unfold L2.start; rw [hlv, hn]
  rw [hst]
  obtain ⟨f0, hf, ef⟩ := hb cdv A' outer s H E hr v0 a
  have fin : ∀ (i : T) v F' H' (σ' : List (Option V)), ER ⟨K, B, F0, H, io⟩ F' H' (some v :: σ') (.st none Unit (it eN) () :: .st (some v0) T ST i :: List.replicate (N.length - 1) .un) → i = t' → Q v H' := fun i v F' H' σ' h3 e => by
    subst e
    have hls : σ'.length = N.length - 1 + 1 := by have := h3.len; simpa using this
    cases σ' with
    | nil => simp at hls
    | cons o σ' =>
      have ho : o = some v0 := by
        obtain ⟨fp, qq⟩ := h3.sl
        obtain ⟨v', e1, _, e2⟩ := qq.ok 1 _ rfl
        simp at e1
        rw [e1, e2.1]
      subst ho
      exact q F' H' v h3.head2
  refine hf ⟨K, B, F0, H, io⟩ F0 H [] [] _ some t' { nx := fun _ H' => Q .non H', rt := Q } rfl rfl (her.padR n) (ef.trans hm) (fun i F' H' σ' e h' => ?_) (fun z => z.elim) (fun z => z.elim) ?_
  · exact fin i .non F' H' σ' (ER.pushSh (E := eN) (x := ()) h' .non) (by cases e; rfl)
  · intro a' i v F' H' σ' e h'
    exact fin i v F' H' σ' h' (by cases e; rfl)
end
section
variable {X : Cx} {Ω : Type} {env : Env} {nm : Str} {pos np : Pos} {e : Expr} {xs : List Expr} {Pt A T : Type} {ST : Stor T} {e' : Pt → Env} {sl : A → Env} {k : Nat} {f c : Addr} {fd : FuncData} {ps : List Str}
/-- into __init__ -/
theorem ER.make {C : Ck} {F H : Hp} {σ : List (Option V)} {env : Env} {σa : List (Option V)} {ea : Env} {p dx : Addr} (h : ER C F H (σa ++ σ) (ea ++ env)) (hl : σa.length = ea.length) (sh : ShE ea) (np : H p = none) (nd : H dx = none) (ne : dx ≠ p) :
    ∃ B io, ER ⟨C.K, B, F, upd (upd H dx (.own p)) p (.ins c dx []), io⟩ F (upd (upd H dx (.own p)) p (.ins c dx [])) (some (.ref p) :: σa) (.st (some (.ref p)) Unit (insN c) () :: ea) ∧ ∀ (T : Type) (ST : Stor T) (t : T) (F' H' : Hp) (v : V), ER ⟨C.K, B, F, upd (upd H dx (.own p)) p (.ins c dx []), io⟩ F' H' [some v, some (.ref p)] [.st none Unit (it eN) (), .st (some (.ref p)) T ST t] →
      v = .non ∧ ∃ F'', ER C F'' H' (some (.ref p) :: σ) (.st none T ST t :: env) := by
  have h2 := h.newH (u := .own p) nd
  have np2 : upd H dx (.own p) p = none := by rw [upd_ne (fun z => ne z.symm)]; exact np
  have s3 : Same (upd H dx (.own p)) (upd (upd H dx (.own p)) p (.ins c dx [])) := same_new np2
  have he := h2.enter hl sh
  obtain ⟨fe, qe⟩ := he.sl
  refine ⟨upd H dx (.own p), [p], ⟨s3, fun a o e => s3 a o (h2.sF a o e), fun a m => .inl m, fun a m => m, by simp [hl], _, Fps.push (fp := fun _ => []) ⟨fun j s e => ?_, fun j hj a ha => (nomatch ha), fun j l _ _ a ha => (nomatch ha), fun j _ => List.nodup_nil⟩ (fq := [p]) ⟨.ref p, rfl, ⟨p, dx, [], rfl, upd_same, rfl, .nil, rfl⟩, rfl, fun a m => .inr m⟩ (fun a m => ?_) (by simp) fun j _ a ha => (nomatch ha)⟩, ?_⟩
  · obtain ⟨τ, S, x, rfl, cp⟩ := sh.slot j s e
    obtain ⟨v, e1, r, _⟩ := qe.ok j _ e
    have z := cp.nil r
    rw [z] at r
    exact ⟨v, e1, S.frame (fun a m => nomatch m) r, fun _ m => nomatch m⟩
  · simp at m; subst m
    exact ⟨np2, h2.fnone np2, by rw [upd_same]; exact fun z => by cases z⟩
  · intro T ST t F' H' v hc
    obtain ⟨fc, qc⟩ := hc.sl
    obtain ⟨v1, ev1, r1, n1⟩ := qc.ok 0 _ rfl
    simp at ev1; subst ev1
    have hv : v = .non := by
      obtain ⟨_, r1⟩ := r1
      cases r1; rfl
    refine ⟨hv, ?_⟩
    have n3 : ∀ a, upd (upd H dx (.own p)) p (.ins c dx []) a = none → upd H dx (.own p) a = none := fun a e => by
      by_cases z : a = p
      · rw [z, upd_same] at e; cases e
      · rw [upd_ne z] at e; exact e
    have hp : ER ⟨C.K, upd H dx (.own p), F, upd (upd H dx (.own p)) p (.ins c dx []), [p]⟩ F' H' [some (.ref p)] [.st (some (.ref p)) T ST t] := hc.pop
    obtain ⟨fq, qq⟩ := hp.sl
    obtain ⟨v2, ev2, r2, n2⟩ := qq.ok 0 _ rfl
    simp at ev2; subst ev2
    have hq : ER ⟨C.K, upd H dx (.own p), F, upd H dx (.own p), []⟩ F' H' [some (.ref p)] [.st none T ST t] := by
      refine ⟨hc.sB, hc.sF, fun a m => (hc.gr a m).imp id (n3 a), fun a m => hc.up a (same_some s3 m), rfl, fq, fun j s e => ?_, fun j hj => qq.own j (by simpa using hj), fun j l hj hl => qq.sep j l (by simpa using hj) (by simpa using hl), fun j hj => qq.nd j (by simpa using hj)⟩
      match j, e with
      | 0, e =>
        simp at e; subst e
        refine ⟨.ref p, rfl, r2, fun a m => ?_⟩
        rcases n2.2 a m with z | z
        · exact n3 a z
        · simp at z; subst z; exact np2
      | j + 1, e => simp at e
    exact (h2.popN hl).back hq
/-- C(..) -/
theorem lx_make {m : A → Option T} {fa : (A → Pt → Option Ω) → Option Ω} (M : Mk X.K c f) (Fn : FnOk X.prog X.w X.K X.mg X.base CX0 k f fd ps (spN X.K c sl ST m)) (hr : Room (k + 1) X.A) (hm : X.mg nm = some (.ref c)) (hb : Binds X.K fd ps []) (sh : ∀ a, ShE (sl a))
    (ha : LA X env (e :: xs) sl e' fa) (hg : Gl X nm := by rfl) (hdb : (nm == ("__debug__" : Str)) = false := by decide) (he : starEach (e :: xs) X.env = (false, eval e X.env) :: starEach xs X.env := by rfl) (hpl : (backTo pos (starEach xs X.env)).any (·.1) = false := by rfl) :
    LX X env (.Call (.Name nm np) (e :: xs) [] pos) ST e' (fun k => fa fun a p => (m a).bind fun r => k r p) :=
  fun C F H σs es σ k ω Q hK hl h hk' q => tE.of X (pe_make M Fn hr hg hm hb .nil pass0 (paC X) hdb he hpl) (ha C F H σs es σ _ ω _ hK hl h hk' fun a p vs F' H' hk2 hlv h' => by
    obtain ⟨r, hm', hk2⟩ := bind_some hk2
    intro x dx nx ndx ne
    show spN X.K c sl ST m (.ref x :: (vs ++ [])) _ _ _
    rw [List.append_nil, ← hK]
    obtain ⟨B, io, g1, g2⟩ := h'.make (c := c) hlv (sh a) nx ndx ne
    refine ⟨B, F', io, a, r, .ref x, vs, rfl, hm', hlv, g1, fun F2 H2 v h3 => ?_⟩
    obtain ⟨hv, F3, h4⟩ := g2 T ST r F2 H2 v h3
    exact ⟨hv, q r p (.ref x) F3 H2 hk2 h4⟩)
end
end Z
namespace Z
open PySem PySem.Spec PyProof.Rows L2
/-! ### a def that calls itself: by the number of calls -/
theorem fnZ {P : Program} {w : World} {K : Fg} {mg : Str → Option Value} {base : Heap} {k : Nat} {f : Addr} {fd : FuncData} {ps : List Str} {sp : Sp} (no : ∀ vs H Q E, ¬ sp vs H Q E) : FnOk P w K mg base CX0 k f fd ps sp :=
  ⟨fun vs H Q E h => absurd h (no vs H Q E), fun A outer s H args us vs Q E _ _ _ _ h => absurd h (no vs H Q E)⟩
theorem spP_no {K : Fg} {A R : Type} {sl : A → Env} {SR : Stor R} {m : A → Option R} (h : ∀ a, m a = none) : ∀ vs H Q E, ¬ spP K sl SR m vs H Q E := fun vs H Q E z => by
  obtain ⟨_, _, a, r, e, _⟩ := z
  rw [h a] at e; cases e
theorem spI_no {K : Fg} {A T R : Type} {ST : Stor T} {sl : A → Env} {SR : Stor R} {m : T → A → Option (R × T)} (h : ∀ t a, m t a = none) : ∀ vs H Q E, ¬ spI K ST sl SR m vs H Q E := fun vs H Q E z => by
  obtain ⟨_, _, _, t, a, r, _, _, _, _, e, _⟩ := z
  rw [h t a] at e; cases e
theorem spL_no {K : Fg} {A T R : Type} {ST : Stor T} {sl : A → Env} {SR : Stor R} {m : T → A → Option R} (h : ∀ t a, m t a = none) : ∀ vs H Q E, ¬ spL K ST sl SR m vs H Q E := fun vs H Q E z => by
  obtain ⟨_, _, t, a, r, _, _, _, e, _⟩ := z
  rw [h t a] at e; cases e
end Z

set_option Elab.async false
set_option linter.all false
set_option maxRecDepth 100000
namespace Z
open PySem PySem.Spec PyProof.Rows L2
/-! ### lent lists are walked -/
theorem ER.lkB {C : Ck} {F H : Hp} {σ : List (Option V)} {env : Env} {i : Nat} {τ : Type} {S : Stor τ} {ys : List τ} (h : ER C F H σ env) (e : env[i]? = some (.lk (List τ) (ls S) ys)) : ∃ q vs fps, σ[i]? = some (some (V.ref q)) ∧ C.B q = some (.lst vs) ∧ H q = some (.lst vs) ∧ RelAll (S.rel C.K F H) fps vs ys ∧ ∀ a ∈ fps, C.B a ≠ none := by
  obtain ⟨fp, k⟩ := h.sl
  obtain ⟨_, v, fq, e1, r, hB⟩ := k.ok i _ e
  obtain ⟨q, vs, fps, rfl, hq, ra, rfl⟩ := r
  have b1 := hB q List.mem_cons_self
  refine ⟨q, vs, fps, ?_, by rw [← same_eq h.sB b1]; exact hq, hq, ra, fun a m => hB a (List.mem_cons_of_mem _ m)⟩
  cases z : σ[i]? with
  | none => rw [z] at e1; cases e1
  | some o => rw [z] at e1; exact congrArg some e1
section
variable {X : Cx} {Ω : Type} {env : Env} {nm : Str} {pos np : Pos} {α : Type} {E : Enc α} {ys : List α}
/-- enumerate(x), x a lent list -/
theorem li_enK {elts : List Expr} {kk : Nat} {tp p : Pos} (i : Nat) (h0 : env[i]? = some (.lk (List α) (ls (it E)) ys)) (hm : X.mg "enumerate" = none) (hg : Gl X "enumerate" := by rfl) (hN : X.N[i]? = some nm := by rfl) (hv : Vis X.env.scope nm := by first | exact Or.inl rfl | exact Or.inr (Or.inl rfl) | exact Or.inr (Or.inr rfl)) (hd : (nm == ("__debug__" : Str)) = false := by decide) (hcd : (nm == ("__classdict__" : Str)) = false := by decide)
    (hs : starEach [.Name nm np] X.env = [(false, eval (.Name nm np) X.env)] := by rfl) (hs4 : starEach [.Name nm np] X.env = (false, eval (.Name nm np) X.env) :: starEach [] X.env := by rfl) :
    LI X env (.Tuple elts kk tp) (.Call (.Name "enumerate" p) [.Name nm np] [] pos) (it (eT2 eI E)) (fun _ : Unit => env) (fun (k : List (Int × α) → Unit → Option Ω) => k (enumL ys) ()) :=
  fun C F H σs es σ k ω R hK hl hr hk q => tI.of X (pi_enum hg hm (pa_cons (pe_var hN hv hd hcd) pa_nil hs4) hs) (by
    obtain ⟨p0, vs, fps, e1, hB, hH, ra, hb⟩ := hr.lkB (i := es.length + i) (by rw [at_app _ rfl]; exact h0)
    rw [at_app _ hl] at e1
    have h' : ER C F H (some (.ref p0) :: (σs ++ σ)) (.lk (List α) (ls (it E)) ys :: (es ++ env)) := hr.push0 ⟨rfl, .ref p0, p0 :: fps, rfl, ⟨p0, vs, fps, rfl, hH, ra, rfl⟩, fun a m => by
      rcases List.mem_cons.1 m with rfl | m
      · rw [hB]; exact fun z => by cases z
      · exact hb a m⟩
    refine ⟨_, e1, p0, vs, rfl, SqL.of hH, q (enumL ys) () (Ite X.K p0) F H [some (.ref p0)] [.lk (List α) (ls (it E)) ys] hk h' ⟨rfl, fun i F2 H2 σ2 σb e2 eb hl2 h2 => ?_⟩⟩
    obtain ⟨p1, ws, fps', e3, _, hq2, ra', _⟩ := h2.lkB (i := e2.length + 0) (by rw [at_app _ rfl]; rfl)
    rw [at_app _ hl2] at e3
    simp at e3; subst e3
    have hs' : SqL X.K H2 p0 ws := SqL.of hq2
    have rp := ra'.zero.2
    rw [enumL_get]
    refine ⟨fun y hy => ?_, fun hn => ?_⟩
    · cases hgi : ys[i]? with
      | none => rw [hgi] at hy; cases hy
      | some z =>
        rw [hgi] at hy
        cases hy
        obtain ⟨w, hw, rw'⟩ := rp.get (i := i) (d := E.enc z) (by rw [List.getElem?_map, hgi]; rfl)
        refine ⟨⟨ws, w, hs', hw⟩, fun v H' hy' => ?_⟩
        obtain ⟨T, w', rfl, nT, rfl, hy'⟩ := hy'
        have := hy' ws hs'
        rw [hw] at this; cases this
        refine ⟨upd F2 T (.tup [.int (i : Nat), w]), (h2.newF nT).pushSh ?_⟩
        exact .tup (SqT.of upd_same) (.cons (.int _) (.cons (rw'.mono (same_new (h2.fnone nT))) .nil))
    · refine ⟨ws, hs', ?_⟩
      have := rp.length
      simp at this
      cases hgi : ys[i]? with
      | none => have := List.getElem?_eq_none_iff.mp hgi; omega
      | some z => rw [hgi] at hn; cases hn)
end
section
variable {X : Cx} {Ω : Type} {env : Env} {nm ny nr : Str} {pos np p1 p2 p tp : Pos} {α R I J : Type} {E : Enc α} {ys : List (List α)} {SR : Stor R} {envR : I → Env} {kr : R → I → Option Ω} {bk ct : Lp Ω} {rest sts : List Stmt} {envJ : J → Env} {kk : Nat}
/-- for y, r in enumerate(x), x a lent list of lists: each r is lent -/
theorem lb_forEK {T : Type} {envT : T → Env} {fb : Int × List α → T → (T → Option Ω) → (T → Option Ω) → (T → Option Ω) → Option Ω} {fr : T → (J → Option Ω) → Option Ω} {fp : Pos} (i iy ir : Nat) (hm : X.mg "enumerate" = none)
    (hp : PassesOwn (model X.prog X.w) X.A X.env X.xe) (hc : X.calm = true) (h0 : env[i]? = some (.lk (List (List α)) (ls (ls (it E))) ys)) (t0 : T) (hs0 : Sub env (envT t0)) (hNd : X.N.Nodup)
    (hb : ∀ x t kc kb, LB X SR envR kr ⟨T, envT, kb⟩ ⟨T, envT, kc⟩ (((envT t).set iy (.st none Int (it eI) x.1)).set ir (.lk (List α) (ls (it E)) x.2)) sts envT (fun kn => fb x t kn kc kb)) (hr : ∀ t, LB X SR envR kr bk ct (envT t) rest envJ (fr t))
    (hly : ∀ t, iy < (envT t).length := by exact (fun _ => Nat.lt_of_sub_eq_succ rfl)) (hlr : ∀ t, ir < (envT t).length := by exact (fun _ => Nat.lt_of_sub_eq_succ rfl))
    (hiy : X.N[iy]? = some ny := by rfl) (hxy : Loc X.env.scope ny := by first | exact Or.inl rfl | exact Or.inr rfl) (hfy : X.fn ny = true ∨ X.env.scope.names.lookup ny = some .local := by first | exact .inl rfl | exact .inr rfl)
    (hir : X.N[ir]? = some nr := by rfl) (hxr : Loc X.env.scope nr := by first | exact Or.inl rfl | exact Or.inr rfl) (hfr : X.fn nr = true ∨ X.env.scope.names.lookup nr = some .local := by first | exact .inl rfl | exact .inr rfl)
    (hg : Gl X "enumerate" := by rfl) (hN : X.N[i]? = some nm := by rfl) (hv : Vis X.env.scope nm := by first | exact Or.inl rfl | exact Or.inr (Or.inl rfl) | exact Or.inr (Or.inr rfl)) (hd : (nm == ("__debug__" : Str)) = false := by decide) (hcd : (nm == ("__classdict__" : Str)) = false := by decide)
    (hs : starEach [.Name nm np] X.env = [(false, eval (.Name nm np) X.env)] := by rfl) (hs4 : starEach [.Name nm np] X.env = (false, eval (.Name nm np) X.env) :: starEach [] X.env := by rfl)
    (hf : ∀ x, foldedSetIterable (.Call (.Name "enumerate" p) [.Name nm np] [] pos) X.env x = pure x := by intro _; rfl)
    (ha1 : (assignEach [Expr.Name ny p1, Expr.Name nr p2] X.env).map (·.2) = assign (.Name ny p1) X.env :: (assignEach [Expr.Name nr p2] X.env).map (·.2) := by rfl) (ha2 : (assignEach [Expr.Name nr p2] X.env).map (·.2) = assign (.Name nr p2) X.env :: (assignEach [] X.env).map (·.2) := by rfl)
    (hn : (assignEach [Expr.Name ny p1, Expr.Name nr p2] X.env).length = 2 := by rfl) (hst : (assignEach [Expr.Name ny p1, Expr.Name nr p2] X.env).findIdx? (·.1) = none := by rfl) :
    LB X SR envR kr bk ct env (.For (.Tuple [.Name ny p1, .Name nr p2] kk tp) (.Call (.Name "enumerate" p) [.Name nm np] [] pos) sts [] fp :: rest) envJ (fun kn => forO (enumL ys) t0 (fun x t kc => fb x t kc kc fun t' => fr t' kn) fun t' => fr t' kn) :=
  fun C F H σs es σ kn ω D hK hl h hk qn qb qc qr => tSs.of X (pss_cons (ps_for hp hc (pi_enum hg hm (pa_cons (pe_var hN hv hd hcd) pa_nil hs4) hs) (pg_tup hc (pgs_cons (pg_name hNd hiy hxy hfy) (pgs_cons (pg_name hNd hir hxr hfr) pgs_nil ha2) ha1) hn hst) (pssC X) hf) (pssC X)) (by
    obtain ⟨q, vs, fps, e1, hB, hH, ra, hb0⟩ := h.lkB (i := es.length + i) (by rw [at_app _ rfl]; exact h0)
    rw [at_app _ hl] at e1
    have h' : ER C F H ([some (.ref q)] ++ (σs ++ σ)) ([.lk (List (List α)) (ls (ls (it E))) ys] ++ (es ++ env)) := h.push0 ⟨rfl, .ref q, q :: fps, rfl, ⟨q, vs, fps, rfl, hH, ra, rfl⟩, fun a m => by
      rcases List.mem_cons.1 m with rfl | m
      · rw [hB]; exact fun z => by cases z
      · exact hb0 a m⟩
    refine ⟨_, e1, q, vs, rfl, SqL.of hH, ?_⟩
    have out : ∀ t F2 H2 σ2, fr t kn = some ω → ER C F2 H2 ([some (.ref q)] ++ (σs ++ σ2)) ([.lk (List (List α)) (ls (ls (it E))) ys] ++ (es ++ envT t)) → tSs X rest D σ2 H2 := fun t F2 H2 σ2 hk2 h2 =>
      hr t C F2 H2 σs es σ2 kn ω D hK hl h2.pop hk2 qn qb qc qr
    refine ⟨fun j m σ2 H2 => m = (enumL ys).length - j ∧ j ≤ (enumL ys).length ∧ ∃ t F2, ER C F2 H2 ([some (.ref q)] ++ (σs ++ σ2)) ([.lk (List (List α)) (ls (ls (it E))) ys] ++ (es ++ envT t)) ∧ forO ((enumL ys).drop j) t (fun x t kc => fb x t kc kc fun t' => fr t' kn) (fun t' => fr t' kn) = some ω,
      ⟨(enumL ys).length, by simp, Nat.zero_le _, t0, F, h'.sub ((hs0.pre es).pre _), by simpa using hk⟩, ?_⟩
    rintro j m σ2 H2 ⟨rfl, hj, t, F2, h2, hk2⟩
    obtain ⟨q', ws, fps2, e3, hB2, hq2, ra2, hb2⟩ := h2.lkB (i := 0) rfl
    simp at e3; subst e3
    have hs' : SqL X.K H2 q ws := SqL.of hq2
    have hlen := ra2.length
    have hle : (enumL ys).length = ys.length := by unfold enumL; simp
    by_cases hlt : j < (enumL ys).length
    · have hy : ys[j]? = some (ys[j]'(by omega)) := List.getElem?_eq_getElem (by omega)
      have ex1 : (enumL ys)[j]? = some (((j : Nat) : Int), ys[j]'(by omega)) := by rw [enumL_get, hy]; rfl
      have ed : (enumL ys).drop j = (((j : Nat) : Int), ys[j]'(by omega)) :: (enumL ys).drop (j + 1) := by
        rw [List.drop_eq_getElem_cons hlt]
        congr 1
        rw [List.getElem?_eq_getElem hlt] at ex1
        exact Option.some.inj ex1
      rw [ed] at hk2
      obtain ⟨fp1, fq, fp2, w, efp, hvn, rv, _⟩ := ra2.split hy
      refine .inr ⟨⟨ws, w, hs', hvn⟩, fun σ3 H3 => ∃ t F3, ER C F3 H3 ([some (.ref q)] ++ (σs ++ σ3)) ([.lk (List (List α)) (ls (ls (it E))) ys] ++ (es ++ envT t)) ∧ forO ((enumL ys).drop (j + 1)) t (fun x t kc => fb x t kc kc fun t' => fr t' kn) (fun t' => fr t' kn) = some ω,
        fun σ3 H3 ⟨t3, F3, h3, hk3⟩ => ⟨(enumL ys).length - (j + 1), by omega, rfl, hlt, t3, F3, h3, hk3⟩, fun v H3 hv => ?_⟩
      obtain ⟨Tt, w', rfl, nT, rfl, hy'⟩ := hv
      have := hy' ws hs'
      rw [hvn] at this; cases this
      have h3 := h2.newF (u := .tup [.int (j : Nat), w]) nT
      have fqB : ∀ a ∈ fq, C.B a ≠ none := fun a m => hb2 a (by rw [efp]; simp [m])
      have rv3 : (ls (it E)).rel C.K (upd F2 Tt (.tup [.int (j : Nat), w])) (upd H2 Tt (.tup [.int (j : Nat), w])) fq w (ys[j]'(by omega)) := Stor.monoF _ (same_new (h2.fnone nT)) (Stor.frame _ (fun a m => by
        have hb := fqB a m
        have := same_some h2.sB hb
        rw [upd_ne (fun z => by rw [z] at this; exact this nT)]) rv)
      have h4 : ER C (upd F2 Tt (.tup [.int (j : Nat), w])) (upd H2 Tt (.tup [.int (j : Nat), w])) ([some w, some (.ref q)] ++ (σs ++ σ2)) ([.lk (List α) (ls (it E)) (ys[j]'(by omega)), .lk (List (List α)) (ls (ls (it E))) ys] ++ (es ++ envT t)) := h3.push0 ⟨rfl, w, fq, rfl, rv3, fqB⟩
      have h5 : ER C (upd F2 Tt (.tup [.int (j : Nat), w])) (upd H2 Tt (.tup [.int (j : Nat), w])) (some (V.int (j : Nat)) :: (([some w, some (.ref q)] ++ σs) ++ σ2)) (.st none Int (it eI) ((j : Nat) : Int) :: (([.lk (List α) (ls (it E)) (ys[j]'(by omega)), .lk (List (List α)) (ls (ls (it E))) ys] ++ es) ++ envT t)) := by
        have := h4.pushSh (E := eI) (x := ((j : Nat) : Int)) (.int _)
        simpa [List.append_assoc] using this
      have h6 := h5.asg (i := iy) (by simp [hl]) (hly t)
      have h7 : ER C (upd F2 Tt (.tup [.int (j : Nat), w])) (upd H2 Tt (.tup [.int (j : Nat), w])) (some w :: (([some (.ref q)] ++ σs) ++ σ2.set iy (some (V.int (j : Nat))))) (.lk (List α) (ls (it E)) (ys[j]'(by omega)) :: (([.lk (List (List α)) (ls (ls (it E))) ys] ++ es) ++ (envT t).set iy (.st none Int (it eI) ((j : Nat) : Int)))) := by simpa [List.append_assoc] using h6
      have h8 := h7.asg (i := ir) (by simp [hl]) (by rw [List.length_set]; exact hlr t)
      refine ⟨Tt, [.int (j : Nat), w], rfl, .inl (.inl upd_same), rfl, .int (j : Nat), [w], rfl, w, [], rfl, rfl, ?_⟩
      refine hb (((j : Nat) : Int), ys[j]'(by omega)) t (fun s' => forO ((enumL ys).drop (j + 1)) s' (fun x t kc => fb x t kc kc fun t' => fr t' kn) fun t' => fr t' kn) (fun t' => fr t' kn) C _ _ ([some (.ref q)] ++ σs) ([.lk (List (List α)) (ls (ls (it E))) ys] ++ es) _ _ ω _ hK (by simp [hl]) h8 hk2 ?_ ?_ ?_ ?_
      · intro t5 F5 H5 σ5 hk5 h5; exact ⟨t5, F5, by simpa [List.append_assoc] using h5, hk5⟩
      · intro t5 F5 H5 σ5 hk5 h5; exact out t5 F5 H5 σ5 hk5 (by simpa [List.append_assoc] using h5)
      · intro t5 F5 H5 σ5 hk5 h5; exact ⟨t5, F5, by simpa [List.append_assoc] using h5, hk5⟩
      · intro a5 i5 v5 F5 H5 σ5 hk5 h5
        refine qr a5 i5 v5 F5 H5 σ5 hk5 ?_
        have h6 : ER C F5 H5 ([some (.ref q)] ++ (some v5 :: (σs ++ σ5))) ([.lk (List (List α)) (ls (ls (it E))) ys] ++ (.st none R SR a5 :: (es ++ envR i5))) := by
          have z : ER C F5 H5 ([some v5] ++ ([some (.ref q)] ++ (σs ++ σ5))) ([.st none R SR a5] ++ ([.lk (List (List α)) (ls (ls (it E))) ys] ++ (es ++ envR i5))) := by simpa [List.append_assoc] using h5
          exact ER.unrot z rfl
        exact h6.pop
    · have e : j = (enumL ys).length := by omega
      subst e
      refine .inl ⟨⟨ws, hs', by omega⟩, out t F2 H2 σ2 ?_ h2⟩
      simpa [forO] using hk2)
end
section
variable {X : Cx} {Ω : Type} {env : Env} {sp pos : Pos} {a b c : Expr} {τ1 α P1 P2 P3 : Type} {S1 : Stor τ1} {E : Enc α} {G : Env → Prop} {e1 : P1 → Env} {e2 : P1 → P2 → Env} {e3 : P1 → P2 → P3 → Env} {g1 : τ1 → List α} {fa : (τ1 → P1 → Option Ω) → Option Ω}
/-- xs[i:j], xs an operand -/
theorem lx_sl2O {fi : P1 → (Int → P2 → Option Ω) → Option Ω} {fj : P1 → P2 → (Int → P3 → Option Ω) → Option Ω} (hv : LVw S1 (it E) g1) (ha : LO X G env a S1 e1 fa) (hi : ∀ p1, LX X (e1 p1) b (it eI) (e2 p1) (fi p1)) (hj : ∀ p1 p2, LX X (e2 p1 p2) c (it eI) (e3 p1 p2) (fj p1 p2)) (hG : ∀ p1 p2 p3, G (e3 p1 p2 p3)) :
    LX X env (.Subscript a (.Slice (some b) (some c) none sp) pos) (ls (it E)) (fun p : P1 × P2 × P3 => e3 p.1 p.2.1 p.2.2) (fun k => fa fun x p1 => fi p1 fun i p2 => fj p1 p2 fun j p3 => k (cutL (g1 x) (some i) (some j)) (p1, p2, p3)) :=
  fun C F H σs es σ k ω Q hK hl h hk q => tE.of X (pe_slice sl_list (peC X) (po_some (peC X)) (po_some (peC X))) (ha C F H σs es σ _ ω _ hK hl h hk fun x p1 v F1 H1 σx ex hlx hk1 h1 rd => by
    refine hi p1 C F1 H1 (σx ++ σs) (ex ++ es) σ _ ω _ hK (by simp [hl, hlx]) (by simpa [List.append_assoc] using h1) hk1 fun i p2 u F2 H2 hk2 h2 => ?_
    have hu : u = .int i := by
      obtain ⟨v', fp, e1, r⟩ := h2.look (i := 0) rfl
      simp at e1; subst e1
      obtain ⟨_, r⟩ := r
      cases r; rfl
    subst hu
    refine ⟨i, rfl, hj p1 p2 C F2 H2 (σx ++ σs) (ex ++ es) σ _ ω _ hK (by simp [hl, hlx]) h2.pop hk2 fun j p3 u F3 H3 hk3 h3 => ?_⟩
    have hu : u = .int j := by
      obtain ⟨v', fp, e1, r⟩ := h3.look (i := 0) rfl
      simp at e1; subst e1
      obtain ⟨_, r⟩ := r
      cases r; rfl
    subst hu
    have h4 : ER C F3 H3 ([] ++ (σx ++ (σs ++ σ))) ([] ++ (ex ++ (es ++ e3 p1 p2 p3))) := by simpa [List.append_assoc] using h3.pop
    obtain ⟨fp, r⟩ := rd F3 H3 [] [] (e3 p1 p2 p3) (hG p1 p2 p3) rfl h4
    obtain ⟨p, vs, fps, rfl, l1, ra⟩ := hv.view h3.sF r
    refine ⟨j, rfl, p, vs, rfl, by rw [← hK]; exact l1, fun t nt => ?_⟩
    have h5 : ER C F3 H3 (σx ++ (σs ++ σ)) (ex ++ (es ++ e3 p1 p2 p3)) := by simpa using h4
    exact q _ (p1, p2, p3) (.ref t) F3 _ hk3 (ER.newOw (h5.popN hlx) nt ⟨t, _, [], rfl, upd_same, (ra.zero.2.cut (some i) (some j)).zero, rfl⟩))
end
/-! ### orders of four and five ints; a way that is never gone -/
def lt4 (x y : Int × Int × Int × Int) : Bool := if x.1 = y.1 then (if x.2.1 = y.2.1 then (if x.2.2.1 = y.2.2.1 then decide (x.2.2.2 < y.2.2.2) else decide (x.2.2.1 < y.2.2.1)) else decide (x.2.1 < y.2.1)) else decide (x.1 < y.1)
def lt5 (x y : Int × Int × Int × Int × Int) : Bool := if x.1 = y.1 then lt4 x.2 y.2 else decide (x.1 < y.1)
theorem odT4 : Od (eT4 eI eI eI eI) lt4 := ⟨fun x y => by
  obtain ⟨x1, x2, x3, x4⟩ := x
  obtain ⟨y1, y2, y3, y4⟩ := y
  show PySem.W.dataLt (.tuple [eI.enc x1, eI.enc x2, eI.enc x3, eI.enc x4]) (.tuple [eI.enc y1, eI.enc y2, eI.enc y3, eI.enc y4]) = _
  rw [lt_cons (odI.al _ _), lt_cons (odI.al _ _), lt_cons (odI.al _ _), lt_one (odI.al _ _), evI.eq, evI.eq, evI.eq, odI.lt, odI.lt, odI.lt, odI.lt]
  unfold lt4 ltI
  simp only [decide_eq_true_eq], fun x y => by
  obtain ⟨x1, x2, x3, x4⟩ := x
  obtain ⟨y1, y2, y3, y4⟩ := y
  show PySem.W.alike (.tuple [eI.enc x1, eI.enc x2, eI.enc x3, eI.enc x4]) (.tuple [eI.enc y1, eI.enc y2, eI.enc y3, eI.enc y4]) = true
  simp only [PySem.W.alike, PySem.W.alikeAll, odI.al, Bool.and_self], fun _ h => by cases h⟩
theorem rep_t5 {K : Fg} {F H : Hp} {v : V} {x : Int × Int × Int × Int × Int} (s : Same F H) (h : Rep K F v ((eT5 eI eI eI eI eI).enc x)) : ∃ p, v = .ref p ∧ SqT K H p ([x.1, x.2.1, x.2.2.1, x.2.2.2.1, x.2.2.2.2].map V.int) := by
  obtain ⟨p, vs, rfl, h1, h2⟩ := Rep.tup_inv (ds := [x.1, x.2.1, x.2.2.1, x.2.2.2.1, x.2.2.2.2].map eI.enc) h
  have h3 : RepAll K F vs ([x.1, x.2.1, x.2.2.1, x.2.2.2.1, x.2.2.2.2].map eI.enc) := h2
  rw [h3.ints] at h1
  exact ⟨p, rfl, same_sqT s h1⟩
section
variable {X : Cx} {Ω : Type} {env : Env} {a b : Expr} {P P1 P2 R I J : Type} {e1 : P1 → Env} {e2 : P1 → P2 → Env} {SR : Stor R} {envR : I → Env} {kr : R → I → Option Ω} {bk ct : Lp Ω} {sts : List Stmt} {envJ : J → Env}
theorem lc_lt5 {fa : ((Int × Int × Int × Int × Int) → P1 → Option Ω) → Option Ω} {fb : P1 → ((Int × Int × Int × Int × Int) → P2 → Option Ω) → Option Ω} (hu : X.A.units + 64 < cLine) (ha : LX X env a (it (eT5 eI eI eI eI eI)) e1 fa) (hb : ∀ p1, LX X (e1 p1) b (it (eT5 eI eI eI eI eI)) (e2 p1) (fb p1)) :
    LC X env .Lt a b (fun p : P1 × P2 => e2 p.1 p.2) (fun k => fa fun x p1 => fb p1 fun y p2 => k (lt5 x y) (p1, p2)) :=
  lc_cmp (op_ltT (by omega)) (lo_of ha) (fun p1 => lo_of (hb p1)) (fun _ _ => trivial) (fun _ _ => trivial) fun K F H fp fq v u x y Q hK s r1 r2 q => by
    subst hK
    obtain ⟨p, rfl, h1⟩ := rep_t5 s r1.2
    obtain ⟨p', rfl, h2⟩ := rep_t5 s r2.2
    refine ⟨p, p', _, _, rfl, rfl, h1, h2, ?_⟩
    have e : lt5 x y = HT.lexLt [x.1, x.2.1, x.2.2.1, x.2.2.2.1, x.2.2.2.2] [y.1, y.2.1, y.2.2.1, y.2.2.2.1, y.2.2.2.2] := by
      unfold lt5 lt4
      have h5 : (!decide (x.2.2.2.2 = y.2.2.2.2) && decide (x.2.2.2.2 < y.2.2.2.2)) = decide (x.2.2.2.2 < y.2.2.2.2) := by
        rw [Bool.eq_iff_iff]
        simp
        omega
      simp [HT.lexLt, h5]
    rw [← e]; exact q
/-- where the walk is not followed -/
theorem lb_dead : LB X SR envR kr bk ct env sts envJ (fun _ => none) := fun C F H σs es σ kn ω D hK hl h hk => by cases hk
end
end Z
namespace Z
open PySem PySem.Spec PyProof.Rows L2
section
variable {α β γ δ ε : Type} {A : Enc α} {B : Enc β} {G : Enc γ} {D : Enc δ} {E5 : Enc ε}
theorem part5_0 : Part (eT5 A B G D E5) 0 A (·.1) := ⟨fun _ => ⟨_, rfl, rfl⟩⟩
theorem part5_1 : Part (eT5 A B G D E5) 1 B (·.2.1) := ⟨fun _ => ⟨_, rfl, rfl⟩⟩
theorem part5_2 : Part (eT5 A B G D E5) 2 G (·.2.2.1) := ⟨fun _ => ⟨_, rfl, rfl⟩⟩
theorem part5_3 : Part (eT5 A B G D E5) 3 D (·.2.2.2.1) := ⟨fun _ => ⟨_, rfl, rfl⟩⟩
theorem part5_4 : Part (eT5 A B G D E5) 4 E5 (·.2.2.2.2) := ⟨fun _ => ⟨_, rfl, rfl⟩⟩
end
end Z
namespace Z
open PySem PySem.Spec PyProof.Rows L2
theorem lx_some {X : Cx} {Ω : Type} {env : Env} {e : Expr} {τ P : Type} {E : Enc τ} {hn : ∀ a, E.enc a ≠ .none} {e' : P → Env} {f : (τ → P → Option Ω) → Option Ω} (h : LX X env e (it E) e' f) : LX X env e (it (eO E hn)) e' (fun (k : Option τ → P → Option Ω) => f fun a p => k (some a) p) := lx_as h some fun _ => rfl
end Z
namespace Z
open PySem PySem.Spec PyProof.Rows L2
section
variable {α β γ δ ε : Type} {A : Enc α} {B : Enc β} {G : Enc γ} {D : Enc δ} {E5 : Enc ε}
theorem nnI : ∀ a, eI.enc a ≠ .none := fun _ h => by cases h
theorem nnS : ∀ a, eS.enc a ≠ .none := fun _ h => by cases h
theorem nnB : ∀ a, eB.enc a ≠ .none := fun _ h => by cases h
theorem nnL : ∀ a, (eL A).enc a ≠ .none := fun _ h => by cases h
theorem nnV : ∀ a, (eV A).enc a ≠ .none := fun _ h => by cases h
theorem nnT2 : ∀ a, (eT2 A B).enc a ≠ .none := fun _ h => by cases h
theorem nnT3 : ∀ a, (eT3 A B G).enc a ≠ .none := fun _ h => by cases h
theorem nnT4 : ∀ a, (eT4 A B G D).enc a ≠ .none := fun _ h => by cases h
theorem nnT5 : ∀ a, (eT5 A B G D E5).enc a ≠ .none := fun _ h => by cases h
end
end Z


namespace My
open PySem PySem.Spec PyProof.Rows L2 Z
def topS (i : Nat) : Stmt := PySem.Challenge.pw_cutwright_k70_whole_offcuts.main.body.getD i (.Pass ⟨0, 0, 0, 0⟩)
abbrev s_free_above : Stmt := topS 1
abbrev s_best_in : Stmt := topS 2
abbrev s_offcut : Stmt := topS 3
abbrev s_clear : Stmt := topS 4
abbrev s_offcut_fault : Stmt := topS 5
abbrev s_offcuts : Stmt := topS 6
abbrev s__law_state : Stmt := topS 8
abbrev s__law_take : Stmt := topS 9
abbrev s__law_plate : Stmt := topS 10
abbrev s__law_all : Stmt := topS 11
abbrev s__law_bar : Stmt := topS 12
abbrev s__law_fault : Stmt := topS 13
abbrev s__law_kept : Stmt := topS 14
abbrev s_law : Stmt := topS 15
structure Fa (K : Fg) (mg : Str → Option Value) where
  f_free_above : Addr
  fd_free_above : FuncData
  F_free_above : Fun K "free_above" "free_above" s_free_above f_free_above fd_free_above
  g_free_above : mg "free_above" = some (.ref f_free_above)
  b_free_above : Binds K fd_free_above ["depths"] []
  f_best_in : Addr
  fd_best_in : FuncData
  F_best_in : Fun K "best_in" "best_in" s_best_in f_best_in fd_best_in
  g_best_in : mg "best_in" = some (.ref f_best_in)
  b_best_in : Binds K fd_best_in ["line", "y"] []
  f_offcut : Addr
  fd_offcut : FuncData
  F_offcut : Fun K "offcut" "offcut" s_offcut f_offcut fd_offcut
  g_offcut : mg "offcut" = some (.ref f_offcut)
  b_offcut : Binds K fd_offcut ["depths"] []
  f_clear : Addr
  fd_clear : FuncData
  F_clear : Fun K "clear" "clear" s_clear f_clear fd_clear
  g_clear : mg "clear" = some (.ref f_clear)
  b_clear : Binds K fd_clear ["depths", "rectangle"] []
  f_offcut_fault : Addr
  fd_offcut_fault : FuncData
  F_offcut_fault : Fun K "offcut_fault" "offcut_fault" s_offcut_fault f_offcut_fault fd_offcut_fault
  g_offcut_fault : mg "offcut_fault" = some (.ref f_offcut_fault)
  b_offcut_fault : Binds K fd_offcut_fault ["depths", "told"] []
  f_offcuts : Addr
  fd_offcuts : FuncData
  F_offcuts : Fun K "offcuts" "offcuts" s_offcuts f_offcuts fd_offcuts
  g_offcuts : mg "offcuts" = some (.ref f_offcuts)
  b_offcuts : Binds K fd_offcuts ["depths", "least"] []
  f__law_state : Addr
  fd__law_state : FuncData
  F__law_state : Fun K "_law_state" "_law_state" s__law_state f__law_state fd__law_state
  g__law_state : mg "_law_state" = some (.ref f__law_state)
  b__law_state : Binds K fd__law_state ["script"] []
  f__law_take : Addr
  fd__law_take : FuncData
  F__law_take : Fun K "_law_take" "_law_take" s__law_take f__law_take fd__law_take
  g__law_take : mg "_law_take" = some (.ref f__law_take)
  b__law_take : Binds K fd__law_take ["state", "most"] []
  f__law_plate : Addr
  fd__law_plate : FuncData
  F__law_plate : Fun K "_law_plate" "_law_plate" s__law_plate f__law_plate fd__law_plate
  g__law_plate : mg "_law_plate" = some (.ref f__law_plate)
  b__law_plate : Binds K fd__law_plate ["state"] []
  f__law_all : Addr
  fd__law_all : FuncData
  F__law_all : Fun K "_law_all" "_law_all" s__law_all f__law_all fd__law_all
  g__law_all : mg "_law_all" = some (.ref f__law_all)
  b__law_all : Binds K fd__law_all ["depths"] []
  f__law_bar : Addr
  fd__law_bar : FuncData
  F__law_bar : Fun K "_law_bar" "_law_bar" s__law_bar f__law_bar fd__law_bar
  g__law_bar : mg "_law_bar" = some (.ref f__law_bar)
  b__law_bar : Binds K fd__law_bar ["rows", "y"] []
  f__law_fault : Addr
  fd__law_fault : FuncData
  F__law_fault : Fun K "_law_fault" "_law_fault" s__law_fault f__law_fault fd__law_fault
  g__law_fault : mg "_law_fault" = some (.ref f__law_fault)
  b__law_fault : Binds K fd__law_fault ["depths", "told"] []
  f__law_kept : Addr
  fd__law_kept : FuncData
  F__law_kept : Fun K "_law_kept" "_law_kept" s__law_kept f__law_kept fd__law_kept
  g__law_kept : mg "_law_kept" = some (.ref f__law_kept)
  b__law_kept : Binds K fd__law_kept ["depths", "least"] []
  f_law : Addr
  fd_law : FuncData
  F_law : Fun K "law" "law" s_law f_law fd_law
  g_law : mg "law" = some (.ref f_law)
  b_law : Binds K fd_law ["script"] []
  z_abs : mg "abs" = none
  z_all : mg "all" = none
  z_enumerate : mg "enumerate" = none
  z_int : mg "int" = none
  z_isinstance : mg "isinstance" = none
  z_len : mg "len" = none
  z_list : mg "list" = none
  z_max : mg "max" = none
  z_min : mg "min" = none
  z_range : mg "range" = none
  z_repr : mg "repr" = none
  z_tuple : mg "tuple" = none

def m_free_above (a_depths : (List (List Int))) : Option (List (List Int)) :=
  let v_found_1 : (List (List Int)) := ([] : (List (List Int)))
  forO (enumL a_depths) v_found_1 (fun x5 (t4 : (List (List Int))) kc6 => (
    let v_line_8 : (List Int) := ([] : (List Int))
    forO (enumL x5.2) v_line_8 (fun x12 (t11 : (List Int)) kc13 => (
      let k33 := fun z34 : Int => (
        let v_before_23 : Int := z34
        let k31 := fun z32 : Int => (
          ck (decide (List.length t11 < SZ)) (
          let w30 : (List Int) := t11 ++ [z32]
          kc13 w30))
        if (decide (x12.2 = (0 : Int))) = true then (k31 (v_before_23 + (1 : Int))) else (k31 (0 : Int)))
      if (decide ((0 : Int) < x5.1)) = true then ((ixN (List.length t4) (x5.1 - (1 : Int))).bind fun n21 =>
      (atI (List.getD t4 n21 []) x12.1).bind fun y22 =>
      k33 y22) else (k33 (0 : Int))))
      fun t35 : (List Int) => (
      ck (decide (List.length t4 < SZ)) (
      let w38 : (List (List Int)) := t4 ++ [t35]
      kc6 w38))))
    fun t40 : (List (List Int)) => (
    some t40)
def m_best_in (a_line : (List Int)) (a_y : Int) : Option (Int × Int × Int × Int × Int) :=
  let v_best_47 : (Int × Int × Int × Int × Int) := ((0 : Int), (0 : Int), (0 : Int), (0 : Int), (0 : Int))
  ck (rgOk 0 (List.length a_line : Int)) (forO (rangeL 0 (List.length a_line : Int)) v_best_47 (fun x51 (t50 : (Int × Int × Int × Int × Int)) kc52 => (
    (atI a_line x51).bind fun y55 =>
    let v_height_56 : Int := y55
    ck (rgOk x51 (List.length a_line : Int)) (forO (rangeL x51 (List.length a_line : Int)) (t50, v_height_56) (fun x61 (t60 : ((Int × Int × Int × Int × Int) × Int)) kc62 => (
      (atI a_line x61).bind fun y66 =>
      let v_height_67 : Int := (min t60.2 y66)
      ck (mulOk v_height_67 ((x61 - x51) + (1 : Int))) (let v_area_73 : Int := (v_height_67 * ((x61 - x51) + (1 : Int)))
      let v_row_86 : (Int × Int × Int × Int × Int) := (v_area_73, x51, ((a_y - v_height_67) + (1 : Int)), ((x61 - x51) + (1 : Int)), v_height_67)
      (let k102 := fun z : Bool => (some z)
      if (decide (t60.1.1 < v_area_73)) = true then k102 true else ((let k103 := fun z : Bool => (some z)
      if (decide (v_area_73 = t60.1.1)) = true then (let k104 := fun z : Bool => (k103 z)
      if (decide ((0 : Int) < v_area_73)) = true then (k104 (lt5 v_row_86 t60.1)) else k104 false) else k103 false).bind fun z95 : Bool =>
      k102 z95)).bind fun z96 : Bool =>
      let k99 := fun j98 : (Int × Int × Int × Int × Int) => (
        kc62 (j98, v_height_67))
      if z96 = true then (
        let v_best_100 : (Int × Int × Int × Int × Int) := v_row_86
        k99 v_best_100)
      else (
        k99 t60.1))))
      fun t105 : ((Int × Int × Int × Int × Int) × Int) => (
      kc52 t105.1))))
    fun t107 : (Int × Int × Int × Int × Int) => (
    some t107))
def m_offcut (a_depths : (List (List Int))) : Option (Int × (Option (Int × Int × Int × Int)) × (List Int)) :=
  (m_free_above a_depths).bind fun r109 =>
  let v_table_110 : (List (List Int)) := r109
  compO (enumL v_table_110) () (fun x114 (t113 : Unit) kc122 => (
    (m_best_in x114.2 x114.1).bind fun r118 =>
    kc122 (some r118) ())) [] fun (ys120 : List (Int × Int × Int × Int × Int)) (t121 : Unit) => (
    let v_rows_123 : (List (Int × Int × Int × Int × Int)) := ys120
    compO v_rows_123 () (fun x127 (t126 : Unit) kc132 => (
      kc132 (some x127.1) ())) [] fun (ys130 : List Int) (t131 : Unit) => (
      let z135 : (List Int) := ys130
      let z136 : (List Int) := [(0 : Int)]
      ck (decide (List.length z135 + List.length z136 ≤ SZ)) ((maxI (z135 ++ z136)).bind fun y137 =>
      let v_area_138 : Int := y137
      compO v_rows_123 () (fun x142 (t141 : Unit) kc148 => (
        if (decide (x142.1 = v_area_138)) = true then (kc148 (some (x142.2.1, x142.2.2.1, x142.2.2.2.1, x142.2.2.2.2)) ()) else kc148 none ())) [] fun (ys146 : List (Int × Int × Int × Int)) (t147 : Unit) => (
        let v_fitting_149 : (List (Int × Int × Int × Int)) := ys146
        let k165 := fun z166 : (Option (Int × Int × Int × Int)) => (
          compO v_rows_123 () (fun x158 (t157 : Unit) kc163 => (
            kc163 (some x158.1) ())) [] fun (ys161 : List Int) (t162 : Unit) => (
            some (v_area_138, z166, ys161)))
        if (decide ((0 : Int) < v_area_138)) = true then ((minB lt4 v_fitting_149).bind fun y154 =>
        k165 (some y154)) else (k165 none)))))
def m_clear (a_depths : (List (List Int))) (a_rectangle : (Int × Int × Int × Int)) : Option Bool :=
  let x167 : (Int × Int × Int × Int) := a_rectangle
  (let k206 := fun z : Bool => (some z)
  if (decide (x167.1 < (0 : Int))) = true then k206 true else (let k207 := fun z : Bool => (k206 z)
  if (decide (x167.2.1 < (0 : Int))) = true then k207 true else (let k208 := fun z : Bool => (k207 z)
  if (decide (x167.2.2.1 < (1 : Int))) = true then k208 true else (let k209 := fun z : Bool => (k208 z)
  if (decide (x167.2.2.2 < (1 : Int))) = true then k209 true else (let k210 := fun z : Bool => (k209 z)
  if (decide ((List.length a_depths : Int) < (x167.2.1 + x167.2.2.2))) = true then k210 true else ((atI a_depths (0 : Int)).bind fun y183 =>
  k210 (decide ((List.length y183 : Int) < (x167.1 + x167.2.2.1))))))))).bind fun z184 : Bool =>
  if z184 = true then (
    some false)
  else (
    ck (rgOk x167.2.1 (x167.2.1 + x167.2.2.2)) (forO (rangeL x167.2.1 (x167.2.1 + x167.2.2.2)) [] (fun x189 (a201 : List Bool) kc203 => (
      ck (rgOk x167.1 (x167.1 + x167.2.2.1)) (forO (rangeL x167.1 (x167.1 + x167.2.2.1)) a201 (fun y191 (a202 : List Bool) kc204 => (
        (atI a_depths x189).bind fun y197 =>
        (atI y197 y191).bind fun y199 =>
        ck (decide (List.length a202 < SZ)) (kc204 (a202 ++ [(decide (y199 = (0 : Int)))])))) kc203))) fun (ys205 : List Bool) => (
      some (List.all ys205 id))))
def m_offcut_fault (a_depths : (List (List Int))) (a_told : (Int × (Option (Int × Int × Int × Int)) × (List Int))) : Option PyData :=
  let x211 : (Int × (Option (Int × Int × Int × Int)) × (List Int)) := a_told
  if (!decide ((isNone ((eO (eT4 eI eI eI eI) nnT4).enc x211.2.1)) = (decide (x211.1 = (0 : Int))))) = true then (
    some (PyData.tuple [PyData.str ("none" : Str)]))
  else (
    (let k260 := fun z : Bool => (some z)
    if (!isNone ((eO (eT4 eI eI eI eI) nnT4).enc x211.2.1)) = true then ((x211.2.1.bind fun y219 =>
    (m_clear a_depths y219).bind fun r221 =>
    let k261 := fun z : Bool => (some z)
    if (!r221) = true then k261 true else (x211.2.1.bind fun y223 =>
    x211.2.1.bind fun y225 =>
    ck (mulOk y223.2.2.1 y225.2.2.2) (k261 (!decide ((y223.2.2.1 * y225.2.2.2) = x211.1))))).bind fun z227 : Bool =>
    k260 z227) else k260 false).bind fun z228 : Bool =>
    if z228 = true then (
      some (PyData.tuple [PyData.str ("rectangle" : Str)]))
    else (
      if (!decide ((List.length x211.2.2 : Int) = (List.length a_depths : Int))) = true then (
        some (PyData.tuple [PyData.str ("bars" : Str)]))
      else (
        (m_free_above a_depths).bind fun r234 =>
        let v_table_236 : (List (List Int)) := r234
        forO (enumL v_table_236) () (fun x240 (t239 : Unit) kc241 => (
          ((atI x211.2.2 x240.1).bind fun y244 =>
          let k257 := fun z : Bool => (some z)
          if (decide (x211.1 < y244)) = true then k257 true else ((m_best_in x240.2 x240.1).bind fun r249 =>
          (atI x211.2.2 x240.1).bind fun y252 =>
          k257 (decide (y252 < r249.1)))).bind fun z253 : Bool =>
          if z253 = true then (
            some (PyData.tuple [PyData.str ("bar" : Str), PyData.int x240.1]))
          else (
            kc241 ())))
          fun t258 : Unit => (
          some PyData.none))))
def m_offcuts (fu : Nat) (a_depths : (List (List Int))) (a_least : Int) : Option (List (Int × Int × Int × Int)) :=
  compO a_depths () (fun x264 (t263 : Unit) kc269 => (
    kc269 (some x264) ())) [] fun (ys267 : List (List Int)) (t268 : Unit) => (
    let v_rest_270 : (List (List Int)) := ys267
    let v_found_272 : (List (Int × Int × Int × Int)) := ([] : (List (Int × Int × Int × Int)))
    let k321 := fun t320 : ((List (List Int)) × (List (Int × Int × Int × Int))) => (
      none)
    whileO fu (v_rest_270, v_found_272) fun (t274 : ((List (List Int)) × (List (Int × Int × Int × Int)))) kc275 => (
      if true = true then (
        (m_offcut t274.1).bind fun r278 =>
        let x279 : (Int × (Option (Int × Int × Int × Int)) × (List Int)) := r278
        if (decide (x279.1 < (max (1 : Int) a_least))) = true then (
          some t274.2)
        else (
          x279.2.1.bind fun y286 =>
          ck (decide (List.length t274.2 < SZ)) (
          let w287 : (List (Int × Int × Int × Int)) := t274.2 ++ [y286]
          x279.2.1.bind fun y288 =>
          let x289 : (Int × Int × Int × Int) := y288
          ck (rgOk x289.2.1 (x289.2.1 + x289.2.2.2)) (forO (rangeL x289.2.1 (x289.2.1 + x289.2.2.2)) t274.1 (fun x295 (t294 : (List (List Int))) kc296 => (
            ck (rgOk x289.1 (x289.1 + x289.2.2.1)) (forO (rangeL x289.1 (x289.1 + x289.2.2.1)) t294 (fun x302 (t301 : (List (List Int))) kc303 => (
              (ixN (List.length t301) x295).bind fun n314 =>
              (ixN (List.length (List.getD t301 n314 [])) x302).bind fun n315 =>
              let z311 : (List (List Int)) := List.set t301 n314 (List.set (List.getD t301 n314 []) n315 (1 : Int))
              kc303 z311))
              fun t316 : (List (List Int)) => (
              kc296 t316))))
            fun t318 : (List (List Int)) => (
            kc275 (t318, w287))))))
      else k321 t274))
def m__law_state (a_script : List Int) : Option TSt :=
  compO (cutL a_script none (some (63 : Int))) () (fun x325 (t324 : Unit) kc330 => (
    kc330 (some (if x325 < 0 then -x325 else x325)) ())) [] fun (ys328 : List Int) (t329 : Unit) => (
    let v_cells_331 : (List Int) := ys328
    let k336 := fun j335 : (List Int) => (
      some ((0 : Int), j335))
    if (decide ((List.length v_cells_331 : Int) = (0 : Int))) = true then (
      let v_cells_338 : (List Int) := [(0 : Int)]
      k336 v_cells_338)
    else (
      k336 v_cells_331))
def m__law_take (t0 : TSt) (a_most : Int) : Option (Int × TSt) :=
  ck (modOk (List.length t0.2 : Int)) (let v_at_342 : Int := (Int.fmod t0.1 (List.length t0.2 : Int))
  (atI t0.2 v_at_342).bind fun y345 =>
  let v_cell_346 : Int := y345
  if (decide ((1000000000000000000 : Int) ≤ v_cell_346)) = true then (
    ck (divOk a_most) ((ixN (List.length t0.2) v_at_342).bind fun n357 =>
    let z355 : (List Int) := List.set t0.2 n357 (Int.fdiv v_cell_346 a_most)
    ck (modOk a_most) (some ((Int.fmod v_cell_346 a_most), (t0.1, z355)))))
  else (
    let v_n_361 : Int := (t0.1 + (1 : Int))
    ck (mulOk v_cell_346 (48271 : Int)) (ck (mulOk v_n_361 (69621 : Int)) (ck (modOk (2147483647 : Int)) (let v_mixed_367 : Int := (Int.fmod ((v_cell_346 * (48271 : Int)) + (v_n_361 * (69621 : Int))) (2147483647 : Int))
    ck (mulOk v_mixed_367 (16807 : Int)) (ck (mulOk v_n_361 (7919 : Int)) (ck (modOk (1000000007 : Int)) (let v_mixed_374 : Int := (Int.fmod ((v_mixed_367 * (16807 : Int)) + (v_n_361 * (7919 : Int))) (1000000007 : Int))
    ck (divOk (7 : Int)) (ck (modOk a_most) (some ((Int.fmod (Int.fdiv v_mixed_374 (7 : Int)) a_most), (v_n_361, t0.2))))))))))))
def m__law_plate (t0 : TSt)  : Option ((List (List Int)) × TSt) :=
  (m__law_take t0 (8 : Int)).bind fun r380 =>
  (m__law_take r380.2 (8 : Int)).bind fun r384 =>
  let x386 : (Int × Int) := (((1 : Int) + r380.1), ((1 : Int) + r384.1))
  (m__law_take r384.2 (3 : Int)).bind fun r393 =>
  (atI ([(2 : Int), (4 : Int), (9 : Int)]) r393.1).bind fun y394 =>
  let v_rare_395 : Int := y394
  ck (rgOk 0 x386.2) (compO (rangeL 0 x386.2) r393.2 (fun x399 (t398 : TSt) kc422 => (
    ck (rgOk 0 x386.1) (compO (rangeL 0 x386.1) t398 (fun x403 (t402 : TSt) kc418 => (
      (m__law_take t402 (3 : Int)).bind fun r408 =>
      (m__law_take r408.2 v_rare_395).bind fun r412 =>
      (atI ([(0 : Int), ((1 : Int) + r408.1)]) (if (decide (r412.1 = (0 : Int))) = true then (1 : Int) else 0)).bind fun y414 =>
      kc418 (some y414) r412.2)) [] fun (ys416 : List Int) (t417 : TSt) => (
      kc422 (some ys416) t417)))) [] fun (ys420 : List (List Int)) (t421 : TSt) => (
    some (ys420, t421)))
def m__law_all (a_depths : (List (List Int))) : Option (List (Int × Int × Int × Int)) :=
  let v_found_423 : (List (Int × Int × Int × Int)) := ([] : (List (Int × Int × Int × Int)))
  ck (rgOk 0 (List.length a_depths : Int)) (forO (rangeL 0 (List.length a_depths : Int)) v_found_423 (fun x427 (t426 : (List (Int × Int × Int × Int))) kc428 => (
    (ixN (List.length a_depths) (0 : Int)).bind fun n430 =>
    ck (rgOk 0 (List.length (List.getD a_depths n430 []) : Int)) (forO (rangeL 0 (List.length (List.getD a_depths n430 []) : Int)) t426 (fun x433 (t432 : (List (Int × Int × Int × Int))) kc434 => (
      ck (rgOk (1 : Int) (((List.length a_depths : Int) - x427) + (1 : Int))) (forO (rangeL (1 : Int) (((List.length a_depths : Int) - x427) + (1 : Int))) t432 (fun x442 (t441 : (List (Int × Int × Int × Int))) kc443 => (
        (ixN (List.length a_depths) (0 : Int)).bind fun n448 =>
        ck (rgOk (1 : Int) (((List.length (List.getD a_depths n448 []) : Int) - x433) + (1 : Int))) (forO (rangeL (1 : Int) (((List.length (List.getD a_depths n448 []) : Int) - x433) + (1 : Int))) t441 (fun x453 (t452 : (List (Int × Int × Int × Int))) kc454 => (
          let v_cells_456 : (List Int) := ([] : (List Int))
          ck (rgOk x427 (x427 + x442)) (forO (rangeL x427 (x427 + x442)) v_cells_456 (fun x462 (t461 : (List Int)) kc463 => (
            (ixN (List.length a_depths) x462).bind fun n467 =>
            let z472 : (List Int) := (cutL (List.getD a_depths n467 []) (some x433) (some (x433 + x453)))
            ck (decide (List.length t461 + List.length z472 ≤ SZ)) (
            let w471 : (List Int) := t461 ++ z472
            kc463 w471)))
            fun t473 : (List Int) => (
            (maxI t473).bind fun y474 =>
            let k478 := fun j477 : (List (Int × Int × Int × Int)) => (
              kc454 j477)
            if (decide (y474 = (0 : Int))) = true then (
              ck (decide (List.length t452 < SZ)) (
              let w485 : (List (Int × Int × Int × Int)) := t452 ++ [(x433, x427, x453, x442)]
              k478 w485))
            else (
              k478 t452)))))
          fun t487 : (List (Int × Int × Int × Int)) => (
          kc443 t487))))
        fun t489 : (List (Int × Int × Int × Int)) => (
        kc434 t489))))
      fun t491 : (List (Int × Int × Int × Int)) => (
      kc428 t491))))
    fun t493 : (List (Int × Int × Int × Int)) => (
    some t493))
def m__law_bar (a_rows : (List (Int × Int × Int × Int))) (a_y : Int) : Option Int :=
  compO a_rows () (fun x499 (t498 : Unit) kc508 => (
    if (decide ((x499.2.1 + x499.2.2.2) = (a_y + (1 : Int)))) = true then (ck (mulOk x499.2.2.1 x499.2.2.2) (kc508 (some (x499.2.2.1 * x499.2.2.2)) ())) else kc508 none ())) [] fun (ys506 : List Int) (t507 : Unit) => (
    let z509 : (List Int) := [(0 : Int)]
    let z510 : (List Int) := ys506
    ck (decide (List.length z509 + List.length z510 ≤ SZ)) ((maxI (z509 ++ z510)).bind fun y511 =>
    some y511))
def m__law_fault (a_depths : (List (List Int))) (a_told : (Int × (Option (Int × Int × Int × Int)) × (List Int))) : Option PyData :=
  let x512 : (Int × (Option (Int × Int × Int × Int)) × (List Int)) := a_told
  (m__law_all a_depths).bind fun r514 =>
  let v_rows_516 : (List (Int × Int × Int × Int)) := r514
  if (!decide ((isNone ((eO (eT4 eI eI eI eI) nnT4).enc x512.2.1)) = (decide (x512.1 = (0 : Int))))) = true then (
    some (PyData.tuple [PyData.str ("none" : Str)]))
  else (
    (let k559 := fun z : Bool => (some z)
    if (!isNone ((eO (eT4 eI eI eI eI) nnT4).enc x512.2.1)) = true then ((x512.2.1.bind fun y524 =>
    let k560 := fun z : Bool => (some z)
    if (!inB y524 v_rows_516) = true then k560 true else (x512.2.1.bind fun y526 =>
    x512.2.1.bind fun y528 =>
    ck (mulOk y526.2.2.1 y528.2.2.2) (k560 (!decide ((y526.2.2.1 * y528.2.2.2) = x512.1))))).bind fun z530 : Bool =>
    k559 z530) else k559 false).bind fun z531 : Bool =>
    if z531 = true then (
      some (PyData.tuple [PyData.str ("rectangle" : Str)]))
    else (
      if (!decide ((List.length x512.2.2 : Int) = (List.length a_depths : Int))) = true then (
        some (PyData.tuple [PyData.str ("bars" : Str)]))
      else (
        ck (rgOk 0 (List.length x512.2.2 : Int)) (forO (rangeL 0 (List.length x512.2.2 : Int)) () (fun x539 (t538 : Unit) kc540 => (
          ((atI x512.2.2 x539).bind fun y543 =>
          let k556 := fun z : Bool => (some z)
          if (decide (x512.1 < y543)) = true then k556 true else ((atI x512.2.2 x539).bind fun y547 =>
          (m__law_bar v_rows_516 x539).bind fun r551 =>
          k556 (decide (y547 < r551)))).bind fun z552 : Bool =>
          if z552 = true then (
            some (PyData.tuple [PyData.str ("bar" : Str), PyData.int x539]))
          else (
            kc540 ())))
          fun t557 : Unit => (
          some PyData.none)))))
def m__law_kept (fu : Nat) (a_depths : (List (List Int))) (a_least : Int) : Option (List (Int × Int × Int × Int)) :=
  compO a_depths () (fun x563 (t562 : Unit) kc568 => (
    kc568 (some x563) ())) [] fun (ys566 : List (List Int)) (t567 : Unit) => (
    let v_left_569 : (List (List Int)) := ys566
    let v_found_571 : (List (Int × Int × Int × Int)) := ([] : (List (Int × Int × Int × Int)))
    let k645 := fun t644 : ((List (List Int)) × (List (Int × Int × Int × Int))) => (
      none)
    whileO fu (v_left_569, v_found_571) fun (t573 : ((List (List Int)) × (List (Int × Int × Int × Int)))) kc574 => (
      if true = true then (
        (m__law_all t573.1).bind fun r577 =>
        let v_rows_578 : (List (Int × Int × Int × Int)) := r577
        compO v_rows_578 () (fun x584 (t583 : Unit) kc590 => (
          ck (mulOk x584.2.2.1 x584.2.2.2) (kc590 (some (x584.2.2.1 * x584.2.2.2)) ()))) [] fun (ys588 : List Int) (t589 : Unit) => (
          let z591 : (List Int) := [(0 : Int)]
          let z592 : (List Int) := ys588
          ck (decide (List.length z591 + List.length z592 ≤ SZ)) ((maxI (z591 ++ z592)).bind fun y593 =>
          let v_area_594 : Int := y593
          if (decide (v_area_594 < (max (1 : Int) a_least))) = true then (
            some t573.2)
          else (
            compO v_rows_578 () (fun x601 (t600 : Unit) kc608 => (
              ck (mulOk x601.2.2.1 x601.2.2.2) (if (decide ((x601.2.2.1 * x601.2.2.2) = v_area_594)) = true then (kc608 (some x601) ()) else kc608 none ()))) [] fun (ys606 : List (Int × Int × Int × Int)) (t607 : Unit) => (
              (minB lt4 ys606).bind fun y609 =>
              let v_box_610 : (Int × Int × Int × Int) := y609
              ck (decide (List.length t573.2 < SZ)) (
              let w614 : (List (Int × Int × Int × Int)) := t573.2 ++ [v_box_610]
              ck (rgOk v_box_610.2.1 (v_box_610.2.1 + v_box_610.2.2.2)) (forO (rangeL v_box_610.2.1 (v_box_610.2.1 + v_box_610.2.2.2)) t573.1 (fun x619 (t618 : (List (List Int))) kc620 => (
                ck (rgOk v_box_610.1 (v_box_610.1 + v_box_610.2.2.1)) (forO (rangeL v_box_610.1 (v_box_610.1 + v_box_610.2.2.1)) t618 (fun x626 (t625 : (List (List Int))) kc627 => (
                  (ixN (List.length t625) x619).bind fun n638 =>
                  (ixN (List.length (List.getD t625 n638 [])) x626).bind fun n639 =>
                  let z635 : (List (List Int)) := List.set t625 n638 (List.set (List.getD t625 n638 []) n639 (9 : Int))
                  kc627 z635))
                  fun t640 : (List (List Int)) => (
                  kc620 t640))))
                fun t642 : (List (List Int)) => (
                kc574 (t642, w614)))))))))
      else k645 t573))
def m_law (fu : Nat) (a_script : List Int) : Option Bool :=
  (m__law_state a_script).bind fun r647 =>
  let v_state_648 : TSt := r647
  (m__law_plate v_state_648).bind fun r650 =>
  let v_depths_651 : (List (List Int)) := r650.1
  (reprO ((eL (eL eI)).enc v_depths_651)).bind fun y653 =>
  let v_kept_654 : Str := y653
  (m_offcut v_depths_651).bind fun r656 =>
  let v_told_658 : (Int × (Option (Int × Int × Int × Int)) × (List Int)) := r656
  (m__law_all v_depths_651).bind fun r660 =>
  let v_rows_662 : (List (Int × Int × Int × Int)) := r660
  compO v_rows_662 () (fun x668 (t667 : Unit) kc674 => (
    ck (mulOk x668.2.2.1 x668.2.2.2) (kc674 (some (x668.2.2.1 * x668.2.2.2)) ()))) [] fun (ys672 : List Int) (t673 : Unit) => (
    let z675 : (List Int) := [(0 : Int)]
    let z676 : (List Int) := ys672
    ck (decide (List.length z675 + List.length z676 ≤ SZ)) ((maxI (z675 ++ z676)).bind fun y677 =>
    let v_most_678 : Int := y677
    (let k877 := fun z : Bool => (some z)
    if (!true) = true then k877 true else (let k878 := fun z : Bool => (k877 z)
    if (!decide (v_told_658.1 = v_most_678)) = true then k878 true else ((m__law_fault v_depths_651 v_told_658).bind fun r685 =>
    let k879 := fun z : Bool => (k878 z)
    if (!isNone (eD.enc r685)) = true then k879 true else ((m_offcut_fault v_depths_651 v_told_658).bind fun r689 =>
    k879 (!isNone (eD.enc r689)))))).bind fun z690 : Bool =>
    if z690 = true then (
      some false)
    else (
      (m__law_take r650.2 (9 : Int)).bind fun r693 =>
      let v_least_694 : Int := r693.1
      ((m_offcuts fu v_depths_651 v_least_694).bind fun r698 =>
      (m__law_kept fu v_depths_651 v_least_694).bind fun r702 =>
      let k876 := fun z : Bool => (some z)
      if (!decide (r698 = r702)) = true then k876 true else ((reprO ((eL (eL eI)).enc v_depths_651)).bind fun y704 =>
      k876 (!decide (y704 = v_kept_654)))).bind fun z706 : Bool =>
      if z706 = true then (
        some false)
      else (
        compO v_rows_662 () (fun x710 (t709 : Unit) kc717 => (
          ck (mulOk x710.2.2.1 x710.2.2.2) (if (decide ((x710.2.2.1 * x710.2.2.2) = v_most_678)) = true then (kc717 (some x710) ()) else kc717 none ()))) [] fun (ys715 : List (Int × Int × Int × Int)) (t716 : Unit) => (
          forO ys715 () (fun x720 (t719 : Unit) kc721 => (
            compO v_depths_651 () (fun x728 (t727 : Unit) kc733 => (
              kc733 (some v_most_678) ())) [] fun (ys731 : List Int) (t732 : Unit) => (
              (m_offcut_fault v_depths_651 (v_most_678, (some x720), ys731)).bind fun r736 =>
              if (!isNone (eD.enc r736)) = true then (
                some false)
              else (
                kc721 ()))))
            fun t738 : Unit => (
            ck (rgOk 0 (8 : Int)) (forO (rangeL 0 (8 : Int)) r693.2 (fun x741 (t740 : TSt) kc742 => (
              let x748 : Int := v_told_658.1
              let x749 : (Option (Int × Int × Int × Int)) := v_told_658.2.1
              let x750 : (List Int) := v_told_658.2.2
              (m__law_take t740 (6 : Int)).bind fun r752 =>
              let v_kind_753 : Int := r752.1
              (m__law_take r752.2 (List.length x750 : Int)).bind fun r756 =>
              let v_y_757 : Int := r756.1
              let k762 := fun j761 : (TSt × (Option (Int × Int × Int × Int)) × Int × (List Int)) => (
                (m_offcut_fault v_depths_651 (j761.2.2.1, j761.2.1, j761.2.2.2)).bind fun r862 =>
                (m__law_fault v_depths_651 (j761.2.2.1, j761.2.1, j761.2.2.2)).bind fun r869 =>
                ck (SeqAt.shaped (eD.enc r862) && SeqAt.shaped (eD.enc r869)) (if (!PyData.eqv (eD.enc r862) (eD.enc r869)) = true then (
                  some false)
                else (
                  kc742 j761.1)))
              if (decide (v_kind_753 = (0 : Int))) = true then (
                (m__law_take r756.2 (2 : Int)).bind fun r769 =>
                (atI ([(1 : Int), ((0 : Int) - (1 : Int))]) r769.1).bind fun y770 =>
                let v_area_771 : Int := (x748 + y770)
                k762 (r769.2, x749, v_area_771, x750))
              else (
                let k776 := fun j775 : (TSt × (Option (Int × Int × Int × Int)) × Int × (List Int)) => (
                  k762 (j775.1, j775.2.1, j775.2.2.1, j775.2.2.2))
                if (decide (v_kind_753 = (1 : Int))) = true then (
                  let k789 := fun (z790 : (Int × Int × Int × Int)) (j791 : TSt) => (
                    let v_box_792 : (Option (Int × Int × Int × Int)) := (some z790)
                    (m__law_take j791 (2 : Int)).bind fun r795 =>
                    let k803 := fun z804 : Int => (
                      let v_area_801 : Int := z804
                      k776 (r795.2, v_box_792, v_area_801, x750))
                    if (decide (r795.1 = (0 : Int))) = true then (v_box_792.bind fun y798 =>
                    v_box_792.bind fun y800 =>
                    ck (mulOk y798.2.2.1 y800.2.2.2) (k803 (y798.2.2.1 * y800.2.2.2))) else (k803 x748))
                  if (decide ((0 : Int) < (List.length v_rows_662 : Int))) = true then ((m__law_take r756.2 (List.length v_rows_662 : Int)).bind fun r781 =>
                  (atI v_rows_662 r781.1).bind fun y782 =>
                  k789 y782 r781.2) else (k789 ((0 : Int), (0 : Int), (1 : Int), (1 : Int)) r756.2))
                else (
                  let k808 := fun j807 : (TSt × (Option (Int × Int × Int × Int)) × (List Int)) => (
                    k776 (j807.1, j807.2.1, x748, j807.2.2))
                  if (decide (v_kind_753 = (2 : Int))) = true then (
                    let k816 := fun (z : Bool) (j815 : TSt) => (let k830 := fun z831 : (Option (Int × Int × Int × Int)) => (
                      let v_box_828 : (Option (Int × Int × Int × Int)) := z831
                      k808 (j815, v_box_828, x750))
                    if z = true then (k830 none) else (x749.bind fun y819 =>
                    x749.bind fun y822 =>
                    x749.bind fun y824 =>
                    x749.bind fun y826 =>
                    k830 (some ((y819.1 + (1 : Int)), y822.2.1, y824.2.2.1, y826.2.2.2))))
                    if (isNone ((eO (eT4 eI eI eI eI) nnT4).enc x749)) = true then k816 true r756.2 else ((m__law_take r756.2 (3 : Int)).bind fun r811 =>
                    k816 (decide (r811.1 = (0 : Int))) r811.2))
                  else (
                    let k835 := fun j834 : (TSt × (List Int)) => (
                      k808 (j834.1, x749, j834.2))
                    if (decide (v_kind_753 < (5 : Int))) = true then (
                      (atI x750 v_y_757).bind fun y839 =>
                      (m__law_take r756.2 (2 : Int)).bind fun r846 =>
                      (atI ([(1 : Int), ((0 : Int) - (1 : Int))]) r846.1).bind fun y847 =>
                      (ixN (List.length x750) v_y_757).bind fun n853 =>
                      let z852 : (List Int) := List.set x750 n853 (y839 + y847)
                      k835 (r846.2, z852))
                    else (
                      let v_bars_855 : (List Int) := (cutL x750 (some (1 : Int)) none)
                      k835 (r756.2, v_bars_855)))))))
              fun t871 : TSt => (
              (reprO ((eL (eL eI)).enc v_depths_651)).bind fun y872 =>
              some (decide (y872 = v_kept_654))))))))))
section
variable {P : Program} {w : World} {K : Fg} {mg : Str → Option Value} {base : Heap}
abbrev n_free_above : List Str := ["depths", "found", "y", "row", "line", "x", "depth", "before"]
theorem sc_free_above : FnScope n_free_above ["depths"] (defScope s_free_above) := ⟨rfl, rfl, rfl, by decide +kernel, rfl, by decide +kernel, by decide +kernel⟩
abbrev sp_free_above (K : Fg) : Sp := spL K (ls (ls (it eI))) (fun a : Unit => []) (it (eL (eL eI))) (fun t0 a => m_free_above t0 )
set_option maxHeartbeats 0 in
theorem ok_free_above (fa : Fa K mg) : FnOk P w K mg base CX0 1 fa.f_free_above fa.fd_free_above ["depths"] (sp_free_above K) := by
  refine fnL fa.F_free_above sc_free_above 7 rfl (fun _ => rfl) fun cdv A' outer s H E hr => ?_
  have nd := sc_free_above.nd
  have hu := hr.units
  have hu5 : (A'.deeper (envOfC "free_above" (defScope s_free_above) s.heap.objs.size fa.f_free_above cdv)).units + 65 < cLine := by have := hr.un; omega
  rintro a_depths _
  exact lb_use (env := [.lk (List (List Int)) (ls (ls (it eI))) a_depths, .un, .un, .un, .un, .un, .un, .un])
    (lb_set 1 nd (lx_nilS (Sa := (ls (it eI)))) (fun v_found_1 p2 => (lb_forEK (envT := (fun t4 : (List (List Int)) => [.lk (List (List Int)) (ls (ls (it eI))) a_depths, .st none (List (List Int)) (ls (ls (it eI))) t4, .un, .un, .un, .un, .un, .un])) 0 2 3 fa.z_enumerate PassesOwn.never rfl rfl v_found_1 (Sub.refl _) nd (fun x5 t4 kc6 kb7 => (lb_set 4 nd (lx_list la_nil eI (fun _ => []) (fun _ => .nil)) (fun v_line_8 p9 => (lb_for (envT := (fun t11 : (List Int) => [.lk (List (List Int)) (ls (ls (it eI))) a_depths, .st none (List (List Int)) (ls (ls (it eI))) t4, .st none Int (it eI) x5.1, .lk (List Int) (ls (it eI)) x5.2, .st none (List Int) (ls (it eI)) t11, .un, .un, .un])) PassesOwn.never rfl (li_enK 3 rfl fa.z_enumerate) (fun p10 => v_line_8) (fun p10 => (Sub.refl _)) (fun t11 => (lg_tup (E := (eT2 eI eI)) (lgs_cons (lg_name 5 nd) (fun _ => (lgs_cons (lg_name 6 nd) (fun _ => lgs_nil)))) (fun x => (x.1, x.2, ())) (fun a : Int × Int × Unit => [eI.enc (a.1), eI.enc (a.2.1)]) (fun _ => (.cons (.cons .nil))) (fun _ => rfl) rfl (fun _ => rfl))) (fun x12 t11 kc13 kb14 => (lb_set 7 nd (lx_if (S := (it eI)) (lt_cmp (lc_gt (lx_var 2 cp_it rfl) (fun p15 => lx_int)) (nomark _)) (fun p16 => (lx_ixM 1 rfl (lx_sub (lx_var 2 cp_it rfl) (fun p17 => lx_int)) (fun _ => rfl) (fun q19 vs20 p18 => (lx_var 5 cp_it rfl)) (fun _ _ _ _ => rfl))) (fun p16 => lx_int) (fun p16 _ => Sub.refl _) (fun p16 _ => Sub.refl _)) (fun v_before_23 p24 => (lb_app 4 rfl (lx_if (S := (it eI)) (lt_cmp (lc_eqI (lx_var 6 cp_it rfl) (fun p27 => lx_int)) (nomark _)) (fun p28 => (lx_add (lx_var 7 cp_it rfl) (fun p29 => lx_int))) (fun p28 => lx_int) (fun p28 _ => Sub.refl _) (fun p28 _ => Sub.refl _)) (fun _ => rfl) (fun y26 p25 => (lb_end (t11 ++ [y26]) (.keep (.keep (.keep (.keep (.keep (.drop (.drop (.drop Sub.nil)))))))))))))) (fun t35 => (lb_app 1 rfl (lx_move 4 rfl) (fun _ => rfl) (fun y37 p36 => (lb_end (t4 ++ [y37]) (.keep (.keep (.drop (.drop (.keep (.keep (.keep (.keep Sub.nil)))))))))))))))) (fun t40 => (lb_ret (lx_frz (S := (ls (ls (it eI)))) (E := (eL (eL eI))) (x := t40) 1 (fz_ls (fz_ls fz_it)) rfl) (fun _ => ()) (fun p => (.drop (.drop (.keep (.keep (.keep (.keep (.keep (.keep Sub.nil))))))))))))))
    (by first | (unfold m_free_above; dsimp only [id]; done) | (unfold m_free_above; dsimp only [id]; rfl) | rfl)
abbrev n_best_in : List Str := ["line", "y", "best", "first", "height", "last", "area", "row"]
theorem sc_best_in : FnScope n_best_in ["line", "y"] (defScope s_best_in) := ⟨rfl, rfl, rfl, by decide +kernel, rfl, by decide +kernel, by decide +kernel⟩
abbrev sp_best_in (K : Fg) : Sp := spP K (fun a : (List Int) × Int × Unit => [.st none (List Int) (it (eL eI)) a.1, .st none Int (it eI) a.2.1]) (it (eT5 eI eI eI eI eI)) (fun a => m_best_in a.1 a.2.1)
set_option maxHeartbeats 0 in
theorem ok_best_in (fa : Fa K mg) : FnOk P w K mg base CX0 1 fa.f_best_in fa.fd_best_in ["line", "y"] (sp_best_in K) := by
  refine fnP fa.F_best_in sc_best_in 6 rfl (fun _ => rfl) fun cdv A' outer s H E hr => ?_
  have nd := sc_best_in.nd
  have hu := hr.units
  have hu5 : (A'.deeper (envOfC "best_in" (defScope s_best_in) s.heap.objs.size fa.f_best_in cdv)).units + 65 < cLine := by have := hr.un; omega
  rintro ⟨a_line, a_y, _⟩
  exact lb_use (env := [.st none (List Int) (it (eL eI)) a_line, .st none Int (it eI) a_y, .un, .un, .un, .un, .un, .un])
    (lb_set 2 nd (lx_tup (la_cons lx_int (fun p42 => (la_cons lx_int (fun p43 => (la_cons lx_int (fun p44 => (la_cons lx_int (fun p45 => (la_cons lx_int (fun p46 => la_nil)))))))))) (eT5 eI eI eI eI eI) (fun a : Int × Int × Int × Int × Int × Unit => (a.1, a.2.1, a.2.2.1, a.2.2.2.1, a.2.2.2.2.1)) (fun a => [eI.enc a.1, eI.enc a.2.1, eI.enc a.2.2.1, eI.enc a.2.2.2.1, eI.enc a.2.2.2.2.1]) (fun _ => (.cons (.cons (.cons (.cons (.cons .nil)))))) (fun _ => rfl)) (fun v_best_47 p48 => (lb_for (envT := (fun t50 : (Int × Int × Int × Int × Int) => [.st none (List Int) (it (eL eI)) a_line, .st none Int (it eI) a_y, .st none (Int × Int × Int × Int × Int) (it (eT5 eI eI eI eI eI)) t50, .un, .un, .un, .un, .un])) PassesOwn.never rfl (li_range1 (by rfl) fa.z_range (lx_len lm_sh.w fa.z_len (lo_of (lx_var 0 cp_it rfl)) (fun _ => trivial))) (fun p49 => v_best_47) (fun p49 => (Sub.refl _)) (fun t50 => (lg_name 3 nd)) (fun x51 t50 kc52 kb53 => (lb_set 4 nd (lx_ix lm_sh.w (lo_of (lx_var 0 cp_it rfl)) (fun p54 => (lx_var 3 cp_it rfl)) (fun _ _ => trivial)) (fun v_height_56 p57 => (lb_for (envT := (fun t60 : ((Int × Int × Int × Int × Int) × Int) => [.st none (List Int) (it (eL eI)) a_line, .st none Int (it eI) a_y, .st none (Int × Int × Int × Int × Int) (it (eT5 eI eI eI eI eI)) t60.1, .st none Int (it eI) x51, .st none Int (it eI) t60.2, .un, .un, .un])) PassesOwn.never rfl (li_range2 (by rfl) fa.z_range (lx_var 3 cp_it rfl) (fun p58 => (lx_len lm_sh.w fa.z_len (lo_of (lx_var 0 cp_it rfl)) (fun _ => trivial)))) (fun p59 => (t50, v_height_56)) (fun p59 => (Sub.refl _)) (fun t60 => (lg_name 5 nd)) (fun x61 t60 kc62 kb63 => (lb_set 4 nd (lx_min2 rfl fa.z_min (lx_var 4 cp_it rfl) (fun p64 => (lx_ix lm_sh.w (lo_of (lx_var 0 cp_it rfl)) (fun p65 => (lx_var 5 cp_it rfl)) (fun _ _ => trivial)))) (fun v_height_67 p68 => (lb_set 6 nd (lx_mul (lx_var 4 cp_it rfl) (fun p69 => (lx_add (lx_sub (lx_var 5 cp_it rfl) (fun p71 => (lx_var 3 cp_it rfl))) (fun p72 => lx_int)))) (fun v_area_73 p74 => (lb_set 7 nd (lx_tup (la_cons (lx_var 6 cp_it rfl) (fun p75 => (la_cons (lx_var 3 cp_it rfl) (fun p76 => (la_cons (lx_add (lx_sub (lx_var 1 cp_it rfl) (fun p78 => (lx_var 4 cp_it rfl))) (fun p79 => lx_int)) (fun p80 => (la_cons (lx_add (lx_sub (lx_var 5 cp_it rfl) (fun p82 => (lx_var 3 cp_it rfl))) (fun p83 => lx_int)) (fun p84 => (la_cons (lx_var 4 cp_it rfl) (fun p85 => la_nil)))))))))) (eT5 eI eI eI eI eI) (fun a : Int × Int × Int × Int × Int × Unit => (a.1, a.2.1, a.2.2.1, a.2.2.2.1, a.2.2.2.2.1)) (fun a => [eI.enc a.1, eI.enc a.2.1, eI.enc a.2.2.1, eI.enc a.2.2.2.1, eI.enc a.2.2.2.2.1]) (fun _ => (.cons (.cons (.cons (.cons (.cons .nil)))))) (fun _ => rfl)) (fun v_row_86 p87 => (lb_if (env1 := (fun j98 : (Int × Int × Int × Int × Int) => [.st none (List Int) (it (eL eI)) a_line, .st none Int (it eI) a_y, .st none (Int × Int × Int × Int × Int) (it (eT5 eI eI eI eI eI)) j98, .st none Int (it eI) x51, .st none Int (it eI) v_height_67, .st none Int (it eI) x61, .st none Int (it eI) v_area_73, .st none (Int × Int × Int × Int × Int) (it (eT5 eI eI eI eI eI)) v_row_86])) (lt_cut (lt_w (lw_or (lt_cmp (lc_gt (lx_var 6 cp_it rfl) (fun p88 => (lx_part part5_0 (lx_var 2 cp_it rfl)))) (nomark _)) (fun p89 => (lw_or1 (lt_cut (lt_w (lw_and (lt_cmp (lc_eqI (lx_var 6 cp_it rfl) (fun p90 => (lx_part part5_0 (lx_var 2 cp_it rfl)))) (nomark _)) (fun p91 => (lw_and (lt_cmp (lc_gt (lx_var 6 cp_it rfl) (fun p92 => lx_int)) (nomark _)) (fun p93 => (lw_and1 (lt_cmp (lc_lt5 hu (lx_var 7 cp_it rfl) (fun p94 => (lx_var 2 cp_it rfl))) (nomark _)))) (fun p93 _ => Sub.refl _))) (fun p91 _ => Sub.refl _))) (fun _ => rfl)))) (fun p89 _ => Sub.refl _))) (fun _ => rfl)) (fun p97 => (lb_set 2 nd (lx_var 7 cp_it rfl) (fun v_best_100 p101 => (lb_end v_best_100 (Sub.refl _))))) (fun p97 => (lb_end t60.1 (Sub.refl _))) (fun j98 => (lb_end (j98, v_height_67) (.keep (.keep (.keep (.keep (.keep (.drop (.drop (.drop Sub.nil)))))))))))))))))) (fun t105 => (lb_end t105.1 (.keep (.keep (.keep (.drop (.drop (.keep (.keep (.keep Sub.nil)))))))))))))) (fun t107 => (lb_ret (lx_var 2 cp_it rfl) (fun _ => ()) (fun p => (.drop (.drop (.drop (.keep (.keep (.keep (.keep (.keep Sub.nil))))))))))))))
    (by first | (unfold m_best_in; dsimp only [id]; done) | (unfold m_best_in; dsimp only [id]; rfl) | rfl)
abbrev n_offcut : List Str := ["depths", "table", "rows", "y", "line", "area", "row", "fitting"]
theorem sc_offcut : FnScope n_offcut ["depths"] (defScope s_offcut) := ⟨rfl, rfl, rfl, by decide +kernel, rfl, by decide +kernel, by decide +kernel⟩
abbrev sp_offcut (K : Fg) : Sp := spL K (ls (ls (it eI))) (fun a : Unit => []) (it (eT3 eI (eO (eT4 eI eI eI eI) nnT4) (eL eI))) (fun t0 a => m_offcut t0 )
set_option maxHeartbeats 0 in
theorem ok_offcut (fa : Fa K mg) : FnOk P w K mg base CX0 2 fa.f_offcut fa.fd_offcut ["depths"] (sp_offcut K) := by
  refine fnL fa.F_offcut sc_offcut 7 rfl (fun _ => rfl) fun cdv A' outer s H E hr => ?_
  have nd := sc_offcut.nd
  have hu := hr.units
  have hu5 : (A'.deeper (envOfC "offcut" (defScope s_offcut) s.heap.objs.size fa.f_offcut cdv)).units + 65 < cLine := by have := hr.un; omega
  rintro a_depths _
  exact lb_use (env := [.lk (List (List Int)) (ls (ls (it eI))) a_depths, .un, .un, .un, .un, .un, .un, .un])
    (lb_set 1 nd (lx_callLK 0 (ok_free_above fa) (hr.mono (by decide)) fa.g_free_above fa.F_free_above.kp fa.b_free_above (fun _ => .nil) rfl la_nil (fun _ => rfl)) (fun v_table_110 p111 => (lb_setLc (envT := (fun t113 : Unit => [.lk (List (List Int)) (ls (ls (it eI))) a_depths, .st none (List (List Int)) (it (eL (eL eI))) v_table_110, .un, .un, .un, .un, .un, .un])) rfl nd (blkOk_by (N := n_offcut) (sc := defScope s_offcut) (own := [("y", 3), ("line", 4)]) (by decide +kernel)) 2 (li_enum (by rfl) fa.z_enumerate lm_sh.w (lx_var 1 cp_it rfl)) (fun p112 => ()) (fun p112 => (Sub.refl _)) (by intro t i s hm he; simp at hm; rcases hm with rfl | rfl <;> (have e := Option.some.inj he; exact e.symm)) (fun _ _ _ _ _ t113 => (lg_tup (E := (eT2 eI (eL eI))) (lgs_cons (lg_name 3 nd) (fun _ => (lgs_cons (lg_name 4 nd) (fun _ => lgs_nil)))) (fun x => (x.1, x.2, ())) (fun a : Int × (List Int) × Unit => [eI.enc (a.1), (eL eI).enc (a.2.1)]) (fun _ => (.cons (.cons .nil))) (fun _ => rfl) rfl (fun _ => rfl))) (fun _ _ _ _ _ t113 x114 => ltl_nil) (fun _ _ _ _ _ t113 x114 p115 => (lx_call (ok_best_in fa) (hr.mono (by decide)) fa.g_best_in fa.F_best_in.kp fa.b_best_in (fun _ => (.cons cp_it (.cons cp_it .nil))) (la_cons (lx_var 4 cp_it rfl) (fun p116 => (la_cons (lx_var 3 cp_it rfl) (fun p117 => la_nil)))))) (fun t113 x114 p115 p119 => ()) (fun t113 x114 p115 p119 => by exact (.keep (.keep (.keep (.drop (.drop (.keep (.keep (.keep Sub.nil))))))))) (fun t113 x114 p115 => ()) (fun t113 x114 p115 => by exact (.keep (.keep (.keep (.drop (.drop (.keep (.keep (.keep Sub.nil))))))))) (fun v_rows_123 p124 => (lb_set 5 nd (lx_maxI rfl lm_ow.w fa.z_max (lo_of (lx_cat lm_ow lm_ow (lo_of (lx_lc (envT := (fun t126 : Unit => [.lk (List (List Int)) (ls (ls (it eI))) a_depths, .st none (List (List Int)) (it (eL (eL eI))) v_table_110, .st none (List (Int × Int × Int × Int × Int)) (it (eL (eT5 eI eI eI eI eI))) v_rows_123, .un, .un, .un, .un, .un])) rfl nd (blkOk_by (N := n_offcut) (sc := defScope s_offcut) (own := [("row", 6)]) (by decide +kernel)) (li_list lm_sh.w (lx_frz 2 (fz_ls fz_it) rfl)) (fun p125 => ()) (fun p125 => (Sub.refl _)) (by intro t i s hm he; simp at hm; subst hm; (have e := Option.some.inj he; exact e.symm)) (fun _ _ _ _ _ t126 => (lg_name 6 nd)) (fun _ _ _ _ _ t126 x127 => ltl_nil) (fun _ _ _ _ _ t126 x127 p128 => (lx_part part5_0 (lx_var 6 cp_it rfl))) (fun t126 x127 p128 p129 => ()) (fun t126 x127 p128 p129 => by exact (.keep (.keep (.keep (.keep (.keep (.keep (.drop (.keep Sub.nil))))))))) (fun t126 x127 p128 => ()) (fun t126 x127 p128 => by exact (.keep (.keep (.keep (.keep (.keep (.keep (.drop (.keep Sub.nil))))))))))) (fun p133 => (lo_of (lx_list (la_cons lx_int (fun p134 => la_nil)) eI (fun a : Int × Unit => [a.1]) (fun _ => (.cons .nil))))) (fun _ _ => trivial) (fun _ _ => trivial))) (fun _ => trivial)) (fun v_area_138 p139 => by exact (lb_setLc (envT := (fun t141 : Unit => [.lk (List (List Int)) (ls (ls (it eI))) a_depths, .st none (List (List Int)) (it (eL (eL eI))) v_table_110, .st none (List (Int × Int × Int × Int × Int)) (it (eL (eT5 eI eI eI eI eI))) v_rows_123, .un, .un, .st none Int (it eI) v_area_138, .un, .un])) rfl nd (blkOk_by (N := n_offcut) (sc := defScope s_offcut) (own := [("row", 6)]) (by decide +kernel)) 7 (li_list lm_sh.w (lx_var 2 cp_it rfl)) (fun p140 => ()) (fun p140 => (Sub.refl _)) (by intro t i s hm he; simp at hm; subst hm; (have e := Option.some.inj he; exact e.symm)) (fun _ _ _ _ _ t141 => (lg_name 6 nd)) (fun _ _ _ _ _ t141 x142 => (ltl_one (lt_cmp (lc_eqI (lx_part part5_0 (lx_var 6 cp_it rfl)) (fun p143 => (lx_var 5 cp_it rfl))) (nomark _)))) (fun _ _ _ _ _ t141 x142 p144 => (lx_cutL (E' := (eT4 eI eI eI eI)) (g := fun x : (Int × Int × Int × Int × Int) => (x.2.1, x.2.2.1, x.2.2.2.1, x.2.2.2.2)) ⟨fun _ => ⟨_, rfl, rfl⟩⟩ (lx_var 6 cp_it rfl))) (fun t141 x142 p144 p145 => ()) (fun t141 x142 p144 p145 => by exact (.keep (.keep (.keep (.keep (.keep (.keep (.drop (.keep Sub.nil))))))))) (fun t141 x142 p144 => ()) (fun t141 x142 p144 => by exact (.keep (.keep (.keep (.keep (.keep (.keep (.drop (.keep Sub.nil))))))))) (fun v_fitting_149 p150 => (lb_ret (lx_tup (la_cons (lx_var 5 cp_it rfl) (fun p151 => (la_cons (lx_if (S := (it (eO (eT4 eI eI eI eI) nnT4))) (lt_cmp (lc_gt (lx_var 5 cp_it rfl) (fun p152 => lx_int)) (nomark _)) (fun p153 => (lx_some (E := (eT4 eI eI eI eI)) (lx_minD rfl hu odT4 (dtT4 dtI dtI dtI dtI) lm_ow.w fa.z_min (lo_var 7 rfl) (fun _ => rfl)))) (fun p153 => (lx_as (E' := (eO (eT4 eI eI eI eI) nnT4)) lx_non (fun _ => none) (fun _ => rfl))) (fun p153 _ => Sub.refl _) (fun p153 _ => Sub.refl _)) (fun p155 => (la_cons (lx_sh (fz_ls fz_it) (lx_lc (envT := (fun t157 : Unit => [.lk (List (List Int)) (ls (ls (it eI))) a_depths, .st none (List (List Int)) (it (eL (eL eI))) v_table_110, .st none (List (Int × Int × Int × Int × Int)) (it (eL (eT5 eI eI eI eI eI))) v_rows_123, .un, .un, .st none Int (it eI) v_area_138, .un, .st none (List (Int × Int × Int × Int)) (ls (it (eT4 eI eI eI eI))) v_fitting_149])) rfl nd (blkOk_by (N := n_offcut) (sc := defScope s_offcut) (own := [("row", 6)]) (by decide +kernel)) (li_list lm_sh.w (lx_var 2 cp_it rfl)) (fun p156 => ()) (fun p156 => (Sub.refl _)) (by intro t i s hm he; simp at hm; subst hm; (have e := Option.some.inj he; exact e.symm)) (fun _ _ _ _ _ t157 => (lg_name 6 nd)) (fun _ _ _ _ _ t157 x158 => ltl_nil) (fun _ _ _ _ _ t157 x158 p159 => (lx_part part5_0 (lx_var 6 cp_it rfl))) (fun t157 x158 p159 p160 => ()) (fun t157 x158 p159 p160 => by exact (.keep (.keep (.keep (.keep (.keep (.keep (.drop (.keep Sub.nil))))))))) (fun t157 x158 p159 => ()) (fun t157 x158 p159 => by exact (.keep (.keep (.keep (.keep (.keep (.keep (.drop (.keep Sub.nil))))))))))) (fun p164 => la_nil)))))) (eT3 eI (eO (eT4 eI eI eI eI) nnT4) (eL eI)) (fun a : Int × (Option (Int × Int × Int × Int)) × (List Int) × Unit => (a.1, a.2.1, a.2.2.1)) (fun a => [eI.enc a.1, (eO (eT4 eI eI eI eI) nnT4).enc a.2.1, (eL eI).enc a.2.2.1]) (fun _ => (.cons (.cons (.cons .nil)))) (fun _ => rfl)) (fun _ => ()) (fun p => (.drop (.drop (.drop (.keep (.keep (.drop (.keep (.drop Sub.nil))))))))))) (sw_true rfl rfl rfl (by decide +kernel)))))) (sw_true rfl rfl rfl (by decide +kernel)))))
    (by first | (unfold m_offcut; dsimp only [id]; done) | (unfold m_offcut; dsimp only [id]; rfl) | rfl)
abbrev n_clear : List Str := ["depths", "rectangle", "x", "y", "wide", "high", "row", "column"]
theorem sc_clear : FnScope n_clear ["depths", "rectangle"] (defScope s_clear) := ⟨rfl, rfl, rfl, by decide +kernel, rfl, by decide +kernel, by decide +kernel⟩
abbrev sp_clear (K : Fg) : Sp := spP K (fun a : (List (List Int)) × (Int × Int × Int × Int) × Unit => [.st none (List (List Int)) (it (eL (eL eI))) a.1, .st none (Int × Int × Int × Int) (it (eT4 eI eI eI eI)) a.2.1]) (it eB) (fun a => m_clear a.1 a.2.1)
set_option maxHeartbeats 0 in
theorem ok_clear (fa : Fa K mg) : FnOk P w K mg base CX0 1 fa.f_clear fa.fd_clear ["depths", "rectangle"] (sp_clear K) := by
  refine fnP fa.F_clear sc_clear 6 rfl (fun _ => rfl) fun cdv A' outer s H E hr => ?_
  have nd := sc_clear.nd
  have hu := hr.units
  have hu5 : (A'.deeper (envOfC "clear" (defScope s_clear) s.heap.objs.size fa.f_clear cdv)).units + 65 < cLine := by have := hr.un; omega
  rintro ⟨a_depths, a_rectangle, _⟩
  exact lb_use (env := [.st none (List (List Int)) (it (eL (eL eI))) a_depths, .st none (Int × Int × Int × Int) (it (eT4 eI eI eI eI)) a_rectangle, .un, .un, .un, .un, .un, .un])
    (lb_asg (lx_var 1 cp_it rfl) (fun p168 => (lg_tup (E := (eT4 eI eI eI eI)) (lgs_cons (lg_name 2 nd) (fun _ => (lgs_cons (lg_name 3 nd) (fun _ => (lgs_cons (lg_name 4 nd) (fun _ => (lgs_cons (lg_name 5 nd) (fun _ => lgs_nil)))))))) (fun x => (x.1, x.2.1, x.2.2.1, x.2.2.2, ())) (fun a : Int × Int × Int × Int × Unit => [eI.enc (a.1), eI.enc (a.2.1), eI.enc (a.2.2.1), eI.enc (a.2.2.2.1)]) (fun _ => (.cons (.cons (.cons (.cons .nil))))) (fun _ => rfl) rfl (fun _ => rfl))) (fun x167 p168 => (lb_ifr (lt_cut (lt_w (lw_or (lt_cmp (lc_lt (lx_var 2 cp_it rfl) (fun p169 => lx_int)) (nomark _)) (fun p170 => (lw_or (lt_cmp (lc_lt (lx_var 3 cp_it rfl) (fun p171 => lx_int)) (nomark _)) (fun p172 => (lw_or (lt_cmp (lc_lt (lx_var 4 cp_it rfl) (fun p173 => lx_int)) (nomark _)) (fun p174 => (lw_or (lt_cmp (lc_lt (lx_var 5 cp_it rfl) (fun p175 => lx_int)) (nomark _)) (fun p176 => (lw_or (lt_cmp (lc_gt (lx_add (lx_var 3 cp_it rfl) (fun p177 => (lx_var 5 cp_it rfl))) (fun p178 => (lx_len lm_sh.w fa.z_len (lo_of (lx_var 0 cp_it rfl)) (fun _ => trivial)))) (nomark _)) (fun p179 => (lw_or1 (lt_cmp (lc_gt (lx_add (lx_var 2 cp_it rfl) (fun p180 => (lx_var 4 cp_it rfl))) (fun p181 => (lx_len lm_sh.w fa.z_len (lo_of (lx_ix lm_sh.w (lo_of (lx_var 0 cp_it rfl)) (fun p182 => lx_int) (fun _ _ => trivial))) (fun _ => trivial)))) (nomark _)))) (fun p179 _ => Sub.refl _))) (fun p176 _ => Sub.refl _))) (fun p174 _ => Sub.refl _))) (fun p172 _ => Sub.refl _))) (fun p170 _ => Sub.refl _))) (fun _ => rfl)) (fun p185 => (lb_ret lx_bl (fun _ => ()) (fun p => (.drop (.drop (.drop (.drop (.drop (.drop (.keep (.keep Sub.nil))))))))))) (fun p185 => (lb_ret (lx_all rfl lm_ow.w fa.z_all (lo_of (lx_lc2 rfl nd (blkOk_by (N := n_clear) (sc := defScope s_clear) (own := [("row", 6), ("column", 7)]) (by decide +kernel)) (li_range2 (by rfl) fa.z_range (lx_var 3 cp_it rfl) (fun p186 => (lx_add (lx_var 3 cp_it rfl) (fun p187 => (lx_var 5 cp_it rfl))))) [.st none (List (List Int)) (it (eL (eL eI))) a_depths, .st none (Int × Int × Int × Int) (it (eT4 eI eI eI eI)) a_rectangle, .st none Int (it eI) x167.1, .st none Int (it eI) x167.2.1, .st none Int (it eI) x167.2.2.1, .st none Int (it eI) x167.2.2.2, .un, .un] (fun p188 => (Sub.refl _)) (by intro i s hm he; simp at hm; rcases hm with rfl | rfl <;> (have e := Option.some.inj he; exact e.symm)) (fun _ _ _ _ _ => (lg_name 6 nd)) (fun _ _ _ _ _ x189 => (li_range2 (by rfl) fa.z_range (lx_var 2 cp_it rfl) (fun p194 => (lx_add (lx_var 2 cp_it rfl) (fun p195 => (lx_var 4 cp_it rfl)))))) (fun _ _ _ _ _ x189 p190 => (lg_name 7 nd)) (fun _ _ _ _ _ x189 p190 y191 => ltl_nil) (fun _ _ _ _ _ x189 p190 y191 p192 => (lx_cmp (lc_eqI (lx_ix lm_sh.w (lo_of (lx_ix lm_sh.w (lo_of (lx_var 0 cp_it rfl)) (fun p196 => (lx_var 6 cp_it rfl)) (fun _ _ => trivial))) (fun p198 => (lx_var 7 cp_it rfl)) (fun _ _ => trivial)) (fun p200 => lx_int)) (nomark _))) (by intro x p i s hm he; simp at hm; subst hm; (have e := Option.some.inj he; exact e.symm)) (fun x189 p190 y191 p192 p193 => by exact (.keep (.keep (.keep (.keep (.keep (.keep (.keep (.drop Sub.nil))))))))) (fun x189 p190 y191 p192 => by exact (.keep (.keep (.keep (.keep (.keep (.keep (.keep (.drop Sub.nil))))))))) (fun x189 p190 => by exact (.keep (.keep (.keep (.keep (.keep (.keep (.drop (.keep Sub.nil))))))))))) (fun _ => trivial)) (fun _ => ()) (fun p => (.drop (.drop (.drop (.drop (.drop (.drop (.keep (.keep Sub.nil))))))))))))))
    (by first | (unfold m_clear; dsimp only [id]; done) | (unfold m_clear; dsimp only [id]; rfl) | rfl)
abbrev n_offcut_fault : List Str := ["depths", "told", "area", "rectangle", "bars", "table", "y", "line"]
theorem sc_offcut_fault : FnScope n_offcut_fault ["depths", "told"] (defScope s_offcut_fault) := ⟨rfl, rfl, rfl, by decide +kernel, rfl, by decide +kernel, by decide +kernel⟩
abbrev sp_offcut_fault (K : Fg) : Sp := spP K (fun a : (List (List Int)) × (Int × (Option (Int × Int × Int × Int)) × (List Int)) × Unit => [.st none (List (List Int)) (it (eL (eL eI))) a.1, .st none (Int × (Option (Int × Int × Int × Int)) × (List Int)) (it (eT3 eI (eO (eT4 eI eI eI eI) nnT4) (eL eI))) a.2.1]) (it eD) (fun a => m_offcut_fault a.1 a.2.1)
set_option maxHeartbeats 0 in
theorem ok_offcut_fault (fa : Fa K mg) : FnOk P w K mg base CX0 2 fa.f_offcut_fault fa.fd_offcut_fault ["depths", "told"] (sp_offcut_fault K) := by
  refine fnP fa.F_offcut_fault sc_offcut_fault 6 rfl (fun _ => rfl) fun cdv A' outer s H E hr => ?_
  have nd := sc_offcut_fault.nd
  have hu := hr.units
  have hu5 : (A'.deeper (envOfC "offcut_fault" (defScope s_offcut_fault) s.heap.objs.size fa.f_offcut_fault cdv)).units + 65 < cLine := by have := hr.un; omega
  rintro ⟨a_depths, a_told, _⟩
  exact lb_use (env := [.st none (List (List Int)) (it (eL (eL eI))) a_depths, .st none (Int × (Option (Int × Int × Int × Int)) × (List Int)) (it (eT3 eI (eO (eT4 eI eI eI eI) nnT4) (eL eI))) a_told, .un, .un, .un, .un, .un, .un])
    (lb_asg (lx_var 1 cp_it rfl) (fun p212 => (lg_tup (E := (eT3 eI (eO (eT4 eI eI eI eI) nnT4) (eL eI))) (lgs_cons (lg_name 2 nd) (fun _ => (lgs_cons (lg_name 3 nd) (fun _ => (lgs_cons (lg_name 4 nd) (fun _ => lgs_nil)))))) (fun x => (x.1, x.2.1, x.2.2, ())) (fun a : Int × (Option (Int × Int × Int × Int)) × (List Int) × Unit => [eI.enc (a.1), (eO (eT4 eI eI eI eI) nnT4).enc (a.2.1), (eL eI).enc (a.2.2.1)]) (fun _ => (.cons (.cons (.cons .nil)))) (fun _ => rfl) rfl (fun _ => rfl))) (fun x211 p212 => (lb_ifr (lt_cmp (lc_neT hu dv_it dv_it dtB evB (lo_of (lx_cmp (lc_isN (lx_var 3 cp_it rfl)) (nomark _))) (fun p213 => (lo_of (lx_cmp (lc_eqI (lx_var 2 cp_it rfl) (fun p214 => lx_int)) (nomark _)))) (fun _ _ => trivial) (fun _ _ => trivial)) (nomark _)) (fun p215 => (lb_ret (lx_tup (la_cons lx_str (fun p216 => la_nil)) eD (fun a : Str × Unit => PyData.tuple [eS.enc a.1]) (fun a => [eS.enc a.1]) (fun _ => (.cons .nil)) (fun _ => rfl)) (fun _ => ()) (fun p => (.drop (.drop (.drop (.drop (.drop (.keep (.keep (.keep Sub.nil))))))))))) (fun p215 => (lb_ifr (lt_cut (lt_w (lw_and (lt_cmp (lc_notN (lx_var 3 cp_it rfl)) (nomark _)) (fun p217 => (lw_and1 (lt_cut (lt_w (lw_or (lt_not (lt_val (lx_call (ok_clear fa) (hr.mono (by decide)) fa.g_clear fa.F_clear.kp fa.b_clear (fun _ => (.cons cp_it (.cons cp_it .nil))) (la_cons (lx_var 0 cp_it rfl) (fun p218 => (la_cons (lx_cast (E' := (eT4 eI eI eI eI)) (lx_var 3 cp_it rfl) id (fun a b h => by have h : a = some b := h; subst h; rfl)) (fun p220 => la_nil))))))) (fun p222 => (lw_or1 (lt_cmp (lc_neI (lx_mul (lx_part part4_2 (lx_cast (E' := (eT4 eI eI eI eI)) (lx_var 3 cp_it rfl) id (fun a b h => by have h : a = some b := h; subst h; rfl))) (fun p224 => (lx_part part4_3 (lx_cast (E' := (eT4 eI eI eI eI)) (lx_var 3 cp_it rfl) id (fun a b h => by have h : a = some b := h; subst h; rfl))))) (fun p226 => (lx_var 2 cp_it rfl))) (nomark _)))) (fun p222 _ => Sub.refl _))) (fun _ => rfl)))) (fun p217 _ => Sub.refl _))) (fun _ => rfl)) (fun p229 => (lb_ret (lx_tup (la_cons lx_str (fun p230 => la_nil)) eD (fun a : Str × Unit => PyData.tuple [eS.enc a.1]) (fun a => [eS.enc a.1]) (fun _ => (.cons .nil)) (fun _ => rfl)) (fun _ => ()) (fun p => (.drop (.drop (.drop (.drop (.drop (.keep (.keep (.keep Sub.nil))))))))))) (fun p229 => (lb_ifr (lt_cmp (lc_neI (lx_len lm_sh.w fa.z_len (lo_of (lx_var 4 cp_it rfl)) (fun _ => trivial)) (fun p231 => (lx_len lm_sh.w fa.z_len (lo_of (lx_var 0 cp_it rfl)) (fun _ => trivial)))) (nomark _)) (fun p232 => (lb_ret (lx_tup (la_cons lx_str (fun p233 => la_nil)) eD (fun a : Str × Unit => PyData.tuple [eS.enc a.1]) (fun a => [eS.enc a.1]) (fun _ => (.cons .nil)) (fun _ => rfl)) (fun _ => ()) (fun p => (.drop (.drop (.drop (.drop (.drop (.keep (.keep (.keep Sub.nil))))))))))) (fun p232 => (lb_set 5 nd (lx_callLS (ok_free_above fa) (hr.mono (by decide)) fa.g_free_above fa.F_free_above.kp fa.b_free_above (fun _ => .nil) (la_cons (lx_var 0 cp_it rfl) (fun p235 => la_nil))) (fun v_table_236 p237 => (lb_for (envT := (fun t239 : Unit => [.st none (List (List Int)) (it (eL (eL eI))) a_depths, .st none (Int × (Option (Int × Int × Int × Int)) × (List Int)) (it (eT3 eI (eO (eT4 eI eI eI eI) nnT4) (eL eI))) a_told, .st none Int (it eI) x211.1, .st none (Option (Int × Int × Int × Int)) (it (eO (eT4 eI eI eI eI) nnT4)) x211.2.1, .st none (List Int) (it (eL eI)) x211.2.2, .st none (List (List Int)) (it (eL (eL eI))) v_table_236, .un, .un])) PassesOwn.never rfl (li_enum (by rfl) fa.z_enumerate lm_sh.w (lx_var 5 cp_it rfl)) (fun p238 => ()) (fun p238 => (Sub.refl _)) (fun t239 => (lg_tup (E := (eT2 eI (eL eI))) (lgs_cons (lg_name 6 nd) (fun _ => (lgs_cons (lg_name 7 nd) (fun _ => lgs_nil)))) (fun x => (x.1, x.2, ())) (fun a : Int × (List Int) × Unit => [eI.enc (a.1), (eL eI).enc (a.2.1)]) (fun _ => (.cons (.cons .nil))) (fun _ => rfl) rfl (fun _ => rfl))) (fun x240 t239 kc241 kb242 => (lb_ifr (lt_cut (lt_w (lw_or (lt_cmp (lc_gt (lx_ix lm_sh.w (lo_of (lx_var 4 cp_it rfl)) (fun p243 => (lx_var 6 cp_it rfl)) (fun _ _ => trivial)) (fun p245 => (lx_var 2 cp_it rfl))) (nomark _)) (fun p246 => (lw_or1 (lt_cmp (lc_gt (lx_part part5_0 (lx_call (ok_best_in fa) (hr.mono (by decide)) fa.g_best_in fa.F_best_in.kp fa.b_best_in (fun _ => (.cons cp_it (.cons cp_it .nil))) (la_cons (lx_var 7 cp_it rfl) (fun p247 => (la_cons (lx_var 6 cp_it rfl) (fun p248 => la_nil)))))) (fun p250 => (lx_ix lm_sh.w (lo_of (lx_var 4 cp_it rfl)) (fun p251 => (lx_var 6 cp_it rfl)) (fun _ _ => trivial)))) (nomark _)))) (fun p246 _ => Sub.refl _))) (fun _ => rfl)) (fun p254 => (lb_ret (lx_tup (la_cons lx_str (fun p255 => (la_cons (lx_var 6 cp_it rfl) (fun p256 => la_nil)))) eD (fun a : Str × Int × Unit => PyData.tuple [eS.enc a.1, eI.enc a.2.1]) (fun a => [eS.enc a.1, eI.enc a.2.1]) (fun _ => (.cons (.cons .nil))) (fun _ => rfl)) (fun _ => ()) (fun p => (.drop (.drop (.drop (.drop (.drop (.drop (.drop (.drop Sub.nil))))))))))) (fun p254 => (lb_end () (.keep (.keep (.keep (.keep (.keep (.keep (.drop (.drop Sub.nil)))))))))))) (fun t258 => (lb_ret (lx_as (E' := eD) lx_non eN.enc (fun _ => rfl)) (fun _ => ()) (fun p => (.drop (.drop (.drop (.drop (.drop (.drop (.keep (.keep Sub.nil))))))))))))))))))))))
    (by first | (unfold m_offcut_fault; dsimp only [id]; done) | (unfold m_offcut_fault; dsimp only [id]; rfl) | rfl)
abbrev n_offcuts : List Str := ["depths", "least", "rest", "row", "found", "area", "rectangle", "bars", "x", "y", "wide", "high", "column"]
theorem sc_offcuts : FnScope n_offcuts ["depths", "least"] (defScope s_offcuts) := ⟨rfl, rfl, rfl, by decide +kernel, rfl, by decide +kernel, by decide +kernel⟩
abbrev sp_offcuts (K : Fg) (fu : Nat) : Sp := spP K (fun a : (List (List Int)) × Int × Unit => [.st none (List (List Int)) (it (eL (eL eI))) a.1, .st none Int (it eI) a.2.1]) (it (eL (eT4 eI eI eI eI))) (fun a => m_offcuts fu a.1 a.2.1)
set_option maxHeartbeats 0 in
theorem ok_offcuts (fa : Fa K mg) (fu : Nat) : FnOk P w K mg base CX0 3 fa.f_offcuts fa.fd_offcuts ["depths", "least"] (sp_offcuts K fu) := by
  refine fnP fa.F_offcuts sc_offcuts 11 rfl (fun _ => rfl) fun cdv A' outer s H E hr => ?_
  have nd := sc_offcuts.nd
  have hu := hr.units
  have hu5 : (A'.deeper (envOfC "offcuts" (defScope s_offcuts) s.heap.objs.size fa.f_offcuts cdv)).units + 65 < cLine := by have := hr.un; omega
  rintro ⟨a_depths, a_least, _⟩
  exact lb_use (env := [.st none (List (List Int)) (it (eL (eL eI))) a_depths, .st none Int (it eI) a_least, .un, .un, .un, .un, .un, .un, .un, .un, .un, .un, .un])
    (lb_setLc (envT := (fun t263 : Unit => [.st none (List (List Int)) (it (eL (eL eI))) a_depths, .st none Int (it eI) a_least, .un, .un, .un, .un, .un, .un, .un, .un, .un, .un, .un])) rfl nd (blkOk_by (N := n_offcuts) (sc := defScope s_offcuts) (own := [("row", 3)]) (by decide +kernel)) 2 (li_list lm_sh.w (lx_var 0 cp_it rfl)) (fun p262 => ()) (fun p262 => (Sub.refl _)) (by intro t i s hm he; simp at hm; subst hm; (have e := Option.some.inj he; exact e.symm)) (fun _ _ _ _ _ t263 => (lg_name 3 nd)) (fun _ _ _ _ _ t263 x264 => ltl_nil) (fun _ _ _ _ _ t263 x264 p265 => (lx_listof lm_sh.w fa.z_list (lo_of (lx_var 3 cp_it rfl)) (fun _ => trivial))) (fun t263 x264 p265 p266 => ()) (fun t263 x264 p265 p266 => by exact (.keep (.keep (.keep (.drop (.keep (.keep (.keep (.keep (.keep (.keep (.keep (.keep (.keep Sub.nil)))))))))))))) (fun t263 x264 p265 => ()) (fun t263 x264 p265 => by exact (.keep (.keep (.keep (.drop (.keep (.keep (.keep (.keep (.keep (.keep (.keep (.keep (.keep Sub.nil)))))))))))))) (fun v_rest_270 p271 => (lb_set 4 nd (lx_list la_nil (eT4 eI eI eI eI) (fun _ => []) (fun _ => .nil)) (fun v_found_272 p273 => (lb_while (envT := (fun t274 : ((List (List Int)) × (List (Int × Int × Int × Int))) => [.st none (List (List Int)) (it (eL (eL eI))) a_depths, .st none Int (it eI) a_least, .st none (List (List Int)) (ls (ls (it eI))) t274.1, .un, .st none (List (Int × Int × Int × Int)) (ls (it (eT4 eI eI eI eI))) t274.2, .un, .un, .un, .un, .un, .un, .un, .un])) fu PassesOwn.never (v_rest_270, v_found_272) (Sub.refl _) (fun t274 => (lt_val lx_bl)) (fun t274 p277 => Sub.refl _) (fun t274 p277 kc275 kb276 => (lb_asg (lx_callL 2 (ok_offcut fa) (hr.mono (by decide)) fa.g_offcut fa.F_offcut.kp fa.b_offcut (fun _ => .nil) rfl la_nil (fun _ => rfl)) (fun p280 => (lg_tup (E := (eT3 eI (eO (eT4 eI eI eI eI) nnT4) (eL eI))) (lgs_cons (lg_name 5 nd) (fun _ => (lgs_cons (lg_name 6 nd) (fun _ => (lgs_cons (lg_name 7 nd) (fun _ => lgs_nil)))))) (fun x => (x.1, x.2.1, x.2.2, ())) (fun a : Int × (Option (Int × Int × Int × Int)) × (List Int) × Unit => [eI.enc (a.1), (eO (eT4 eI eI eI eI) nnT4).enc (a.2.1), (eL eI).enc (a.2.2.1)]) (fun _ => (.cons (.cons (.cons .nil)))) (fun _ => rfl) rfl (fun _ => rfl))) (fun x279 p280 => (lb_ifr (lt_cmp (lc_lt (lx_var 5 cp_it rfl) (fun p281 => (lx_max2 rfl fa.z_max lx_int (fun p282 => (lx_var 1 cp_it rfl))))) (nomark _)) (fun p283 => (lb_ret (lx_frz 4 (fz_ls fz_it) rfl) (fun _ => ()) (fun p => (.drop (.drop (.drop (.keep (.drop (.drop (.drop (.drop (.keep (.keep (.keep (.keep (.keep Sub.nil)))))))))))))))) (fun p283 => (lb_app 4 rfl (lx_cast (E' := (eT4 eI eI eI eI)) (lx_var 6 cp_it rfl) id (fun a b h => by have h : a = some b := h; subst h; rfl)) (fun _ => rfl) (fun y285 p284 => (lb_asg (lx_cast (E' := (eT4 eI eI eI eI)) (lx_var 6 cp_it rfl) id (fun a b h => by have h : a = some b := h; subst h; rfl)) (fun p290 => (lg_tup (E := (eT4 eI eI eI eI)) (lgs_cons (lg_name 8 nd) (fun _ => (lgs_cons (lg_name 9 nd) (fun _ => (lgs_cons (lg_name 10 nd) (fun _ => (lgs_cons (lg_name 11 nd) (fun _ => lgs_nil)))))))) (fun x => (x.1, x.2.1, x.2.2.1, x.2.2.2, ())) (fun a : Int × Int × Int × Int × Unit => [eI.enc (a.1), eI.enc (a.2.1), eI.enc (a.2.2.1), eI.enc (a.2.2.2.1)]) (fun _ => (.cons (.cons (.cons (.cons .nil))))) (fun _ => rfl) rfl (fun _ => rfl))) (fun x289 p290 => (lb_for (envT := (fun t294 : (List (List Int)) => [.st none (List (List Int)) (it (eL (eL eI))) a_depths, .st none Int (it eI) a_least, .st none (List (List Int)) (ls (ls (it eI))) t294, .un, .st none (List (Int × Int × Int × Int)) (ls (it (eT4 eI eI eI eI))) (t274.2 ++ [y285]), .st none Int (it eI) x279.1, .st none (Option (Int × Int × Int × Int)) (it (eO (eT4 eI eI eI eI) nnT4)) x279.2.1, .st none (List Int) (it (eL eI)) x279.2.2, .st none Int (it eI) x289.1, .st none Int (it eI) x289.2.1, .st none Int (it eI) x289.2.2.1, .st none Int (it eI) x289.2.2.2, .un])) PassesOwn.never rfl (li_range2 (by rfl) fa.z_range (lx_var 9 cp_it rfl) (fun p291 => (lx_add (lx_var 9 cp_it rfl) (fun p292 => (lx_var 11 cp_it rfl))))) (fun p293 => t274.1) (fun p293 => (Sub.refl _)) (fun t294 => (lg_name 3 nd)) (fun x295 t294 kc296 kb297 => (lb_for (envT := (fun t301 : (List (List Int)) => [.st none (List (List Int)) (it (eL (eL eI))) a_depths, .st none Int (it eI) a_least, .st none (List (List Int)) (ls (ls (it eI))) t301, .st none Int (it eI) x295, .st none (List (Int × Int × Int × Int)) (ls (it (eT4 eI eI eI eI))) (t274.2 ++ [y285]), .st none Int (it eI) x279.1, .st none (Option (Int × Int × Int × Int)) (it (eO (eT4 eI eI eI eI) nnT4)) x279.2.1, .st none (List Int) (it (eL eI)) x279.2.2, .st none Int (it eI) x289.1, .st none Int (it eI) x289.2.1, .st none Int (it eI) x289.2.2.1, .st none Int (it eI) x289.2.2.2, .un])) PassesOwn.never rfl (li_range2 (by rfl) fa.z_range (lx_var 8 cp_it rfl) (fun p298 => (lx_add (lx_var 8 cp_it rfl) (fun p299 => (lx_var 10 cp_it rfl))))) (fun p300 => t294) (fun p300 => (Sub.refl _)) (fun t301 => (lg_name 12 nd)) (fun x302 t301 kc303 kb304 => (lb_setIx2 (E := eI) (w := none) 2 lx_int (fun _ => rfl) (fun y305 p306 => (lx_var 3 cp_it rfl)) (fun _ _ _ => rfl) (fun q312 vs313 y305 p306 p308 => (lx_var 12 cp_it rfl)) (fun _ _ _ _ _ _ => rfl) (fun q312 vs313 y305 p306 a307 p308 b309 p310 z311 => by exact (lb_end z311 (.keep (.keep (.keep (.keep (.keep (.keep (.keep (.keep (.keep (.keep (.keep (.keep (.drop Sub.nil))))))))))))))))) (fun t316 => (lb_end t316 (.keep (.keep (.keep (.drop (.keep (.keep (.keep (.keep (.keep (.keep (.keep (.keep (.keep Sub.nil))))))))))))))))) (fun t318 => (lb_end (t318, (t274.2 ++ [y285])) (.keep (.keep (.keep (.keep (.keep (.drop (.drop (.drop (.drop (.drop (.drop (.drop (.keep Sub.nil))))))))))))))))))))))))) (fun t320 => lb_dead))))) (sw_true rfl rfl rfl (by decide +kernel)))
    (by first | (unfold m_offcuts; dsimp only [id]; done) | (unfold m_offcuts; dsimp only [id]; rfl) | rfl)
abbrev n__law_state : List Str := ["script", "cells", "cell"]
theorem sc__law_state : FnScope n__law_state ["script"] (defScope s__law_state) := ⟨rfl, rfl, rfl, by decide +kernel, rfl, by decide +kernel, by decide +kernel⟩
abbrev sp__law_state (K : Fg) : Sp := spP K (fun a : List Int × Unit => [.st none (List Int) scr a.1]) stT (fun a => m__law_state a.1)
set_option maxHeartbeats 0 in
theorem ok__law_state (fa : Fa K mg) : FnOk P w K mg base CX0 1 fa.f__law_state fa.fd__law_state ["script"] (sp__law_state K) := by
  refine fnP fa.F__law_state sc__law_state 2 rfl (fun _ => rfl) fun cdv A' outer s H E hr => ?_
  have nd := sc__law_state.nd
  have hu := hr.units
  have hu5 : (A'.deeper (envOfC "_law_state" (defScope s__law_state) s.heap.objs.size fa.f__law_state cdv)).units + 65 < cLine := by have := hr.un; omega
  rintro ⟨a_script, _⟩
  exact lb_use (env := [.st none (List Int) scr a_script, .un, .un])
    (lb_setLc (envT := (fun t324 : Unit => [.st none (List Int) scr a_script, .un, .un])) rfl nd (blkOk_by (N := n__law_state) (sc := defScope s__law_state) (own := [("cell", 2)]) (by decide +kernel)) 1 (li_list lm_ow.w (lx_slR lv_scr (lx_var 0 cp_scr rfl) (fun p322 => lx_int))) (fun p323 => ()) (fun p323 => (Sub.refl _)) (by intro t i s hm he; simp at hm; subst hm; (have e := Option.some.inj he; exact e.symm)) (fun _ _ _ _ _ t324 => (lg_name 2 nd)) (fun _ _ _ _ _ t324 x325 => ltl_nil) (fun _ _ _ _ _ t324 x325 p326 => (lx_abs fa.z_abs (lx_var 2 cp_it rfl))) (fun t324 x325 p326 p327 => ()) (fun t324 x325 p326 p327 => by exact (.keep (.keep (.drop Sub.nil)))) (fun t324 x325 p326 => ()) (fun t324 x325 p326 => by exact (.keep (.keep (.drop Sub.nil)))) (fun v_cells_331 p332 => (lb_if (env1 := (fun j335 : (List Int) => [.st none (List Int) scr a_script, .st none (List Int) (ls (it eI)) j335, .un])) (lt_cmp (lc_eqI (lx_len lm_ow.w fa.z_len (lo_var 1 rfl) (fun _ => rfl)) (fun p333 => lx_int)) (nomark _)) (fun p334 => (lb_set 1 nd (lx_list (la_cons lx_int (fun p337 => la_nil)) eI (fun a : Int × Unit => [a.1]) (fun _ => (.cons .nil))) (fun v_cells_338 p339 => (lb_end v_cells_338 (Sub.refl _))))) (fun p334 => (lb_end v_cells_331 (Sub.refl _))) (fun j335 => (lb_ret (lx_st lx_int (fun p340 => (lx_move 1 rfl))) (fun _ => ()) (fun p => (.drop (.keep (.keep Sub.nil)))))))) (sw_true rfl rfl rfl (by decide +kernel)))
    (by first | (unfold m__law_state; dsimp only [id]; done) | (unfold m__law_state; dsimp only [id]; rfl) | rfl)
abbrev n__law_take : List Str := ["state", "most", "cells", "at", "cell", "mixed"]
theorem sc__law_take : FnScope n__law_take ["state", "most"] (defScope s__law_take) := ⟨rfl, rfl, rfl, by decide +kernel, rfl, by decide +kernel, by decide +kernel⟩
abbrev sp__law_take (K : Fg) : Sp := spI K stT (fun a : Int × Unit => [.st none Int (it eI) a.1]) (it eI) (fun t0 a => m__law_take t0 a.1)
set_option maxHeartbeats 0 in
theorem ok__law_take (fa : Fa K mg) : FnOk P w K mg base CX0 1 fa.f__law_take fa.fd__law_take ["state", "most"] (sp__law_take K) := by
  refine fnI fa.F__law_take sc__law_take 4 rfl (fun _ => rfl) fun cdv A' outer s H E hr => ?_
  have nd := sc__law_take.nd
  have hu := hr.units
  have hu5 : (A'.deeper (envOfC "_law_take" (defScope s__law_take) s.heap.objs.size fa.f__law_take cdv)).units + 65 < cLine := by have := hr.un; omega
  rintro v0 t0 ⟨a_most, _⟩
  exact lb_use (env := [.st (some v0) TSt stT t0, .st none Int (it eI) a_most, .un, .un, .un, .un])
    (lb_alias 0 2 nd rfl rfl (fun q => (lb_set 3 nd (lx_mod (lx_st0 0 rfl) (fun p341 => (lx_len lm_ow.w fa.z_len (lo_var 2 rfl) (fun _ => rfl)))) (fun v_at_342 p343 => (lb_set 4 nd (lx_ix lm_ow.w (lo_var 2 rfl) (fun p344 => (lx_var 3 cp_it rfl)) (fun _ _ => rfl)) (fun v_cell_346 p347 => (lb_ifr (lt_cmp (lc_ge (lx_var 4 cp_it rfl) (fun p348 => lx_int)) (nomark _)) (fun p349 => (lb_setix 2 (lx_fdiv (lx_var 4 cp_it rfl) (fun p350 => (lx_var 1 cp_it rfl))) (fun _ => rfl) (fun y351 p352 => (lx_var 3 cp_it rfl)) (fun _ _ _ => rfl) (fun y351 p352 j353 p354 z355 => (lb_join 0 2 rfl rfl (lb_ret (lx_mod (lx_var 4 cp_it rfl) (fun p356 => (lx_var 1 cp_it rfl))) (fun p => (t0.1, z355)) (fun p => (.keep (.drop (.keep (.drop (.drop (.keep Sub.nil)))))))))))) (fun p349 => (lb_st0 0 (lx_add (lx_st0 0 rfl) (fun p358 => lx_int)) (fun _ => rfl) (fun y359 p360 => (lb_set 5 nd (lx_mod (lx_int1 fa.z_int (lx_add (lx_mul (lx_var 4 cp_it rfl) (fun p363 => lx_int)) (fun p364 => (lx_mul (lx_st0 0 rfl) (fun p365 => lx_int))))) (fun p366 => lx_int)) (fun v_mixed_367 p368 => (lb_set 5 nd (lx_mod (lx_int1 fa.z_int (lx_add (lx_mul (lx_var 5 cp_it rfl) (fun p370 => lx_int)) (fun p371 => (lx_mul (lx_st0 0 rfl) (fun p372 => lx_int))))) (fun p373 => lx_int)) (fun v_mixed_374 p375 => (lb_join 0 2 rfl rfl (lb_ret (lx_mod (lx_fdiv (lx_var 5 cp_it rfl) (fun p376 => lx_int)) (fun p377 => (lx_var 1 cp_it rfl))) (fun p => (y359, t0.2)) (fun p => (.keep (.drop (.keep (.drop (.drop (.drop Sub.nil)))))))))))))))))))))))
    (by first | (unfold m__law_take; dsimp only [id]; done) | (unfold m__law_take; dsimp only [id]; rfl) | rfl)
abbrev n__law_plate : List Str := ["state", "wide", "high", "rare", "y", "x"]
theorem sc__law_plate : FnScope n__law_plate ["state"] (defScope s__law_plate) := ⟨rfl, rfl, rfl, by decide +kernel, rfl, by decide +kernel, by decide +kernel⟩
abbrev sp__law_plate (K : Fg) : Sp := spI K stT (fun a : Unit => []) (it (eL (eL eI))) (fun t0 a => m__law_plate t0 )
set_option maxHeartbeats 0 in
theorem ok__law_plate (fa : Fa K mg) : FnOk P w K mg base CX0 2 fa.f__law_plate fa.fd__law_plate ["state"] (sp__law_plate K) := by
  refine fnI fa.F__law_plate sc__law_plate 5 rfl (fun _ => rfl) fun cdv A' outer s H E hr => ?_
  have nd := sc__law_plate.nd
  have hu := hr.units
  have hu5 : (A'.deeper (envOfC "_law_plate" (defScope s__law_plate) s.heap.objs.size fa.f__law_plate cdv)).units + 65 < cLine := by have := hr.un; omega
  rintro v0 t0 _
  exact lb_use (env := [.st (some v0) TSt stT t0, .un, .un, .un, .un, .un])
    (lb_asg (lx_tup (la_cons (lx_add lx_int (fun p378 => (lx_callI 0 (ok__law_take fa) (hr.mono (by decide)) fa.g__law_take fa.F__law_take.kp fa.b__law_take (fun _ => (.cons cp_it .nil)) rfl (la_cons lx_int (fun p379 => la_nil)) (fun _ => rfl)))) (fun p381 => (la_cons (lx_add lx_int (fun p382 => (lx_callI 0 (ok__law_take fa) (hr.mono (by decide)) fa.g__law_take fa.F__law_take.kp fa.b__law_take (fun _ => (.cons cp_it .nil)) rfl (la_cons lx_int (fun p383 => la_nil)) (fun _ => rfl)))) (fun p385 => la_nil)))) (eT2 eI eI) (fun a : Int × Int × Unit => (a.1, a.2.1)) (fun a => [eI.enc a.1, eI.enc a.2.1]) (fun _ => (.cons (.cons .nil))) (fun _ => rfl)) (fun p387 => (lg_tup (E := (eT2 eI eI)) (lgs_cons (lg_name 1 nd) (fun _ => (lgs_cons (lg_name 2 nd) (fun _ => lgs_nil)))) (fun x => (x.1, x.2, ())) (fun a : Int × Int × Unit => [eI.enc (a.1), eI.enc (a.2.1)]) (fun _ => (.cons (.cons .nil))) (fun _ => rfl) rfl (fun _ => rfl))) (fun x386 p387 => (lb_set 3 nd (lx_ix lm_ow.w (lo_of (lx_list (la_cons lx_int (fun p388 => (la_cons lx_int (fun p389 => (la_cons lx_int (fun p390 => la_nil)))))) eI (fun a : Int × Int × Int × Unit => [a.1, a.2.1, a.2.2.1]) (fun _ => (.cons (.cons (.cons .nil)))))) (fun p391 => (lx_callI 0 (ok__law_take fa) (hr.mono (by decide)) fa.g__law_take fa.F__law_take.kp fa.b__law_take (fun _ => (.cons cp_it .nil)) rfl (la_cons lx_int (fun p392 => la_nil)) (fun _ => rfl))) (fun _ _ => trivial)) (fun v_rare_395 p396 => (lb_ret (lx_sh (fz_ls fz_it) (lx_lc (envT := (fun t398 : TSt => [.st (some v0) TSt stT t398, .st none Int (it eI) x386.1, .st none Int (it eI) x386.2, .st none Int (it eI) v_rare_395, .un, .un])) rfl nd (blkOk_by (N := n__law_plate) (sc := defScope s__law_plate) (own := [("y", 4)]) (by decide +kernel)) (li_range1 (by rfl) fa.z_range (lx_var 2 cp_it rfl)) (fun p397 => p396.2.2) (fun p397 => (Sub.refl _)) (by intro t i s hm he; simp at hm; subst hm; (have e := Option.some.inj he; exact e.symm)) (fun _ _ _ _ _ t398 => (lg_name 4 nd)) (fun _ _ _ _ _ t398 x399 => ltl_nil) (fun _ _ _ _ _ t398 x399 p400 => (lx_sh (fz_ls fz_it) (lx_lc (envT := (fun t402 : TSt => [.st (some v0) TSt stT t402, .st none Int (it eI) x386.1, .st none Int (it eI) x386.2, .st none Int (it eI) v_rare_395, .st none Int (it eI) x399, .un])) rfl nd (blkOk_by (own := [("x", 5)]) (by rfl)) (li_range1 (by rfl) fa.z_range (lx_var 1 cp_it rfl)) (fun p401 => t398) (fun p401 => (Sub.refl _)) (by intro t i s hm he; simp at hm; subst hm; (have e := Option.some.inj he; exact e.symm)) (fun _ _ _ _ _ t402 => (lg_name 5 nd)) (fun _ _ _ _ _ t402 x403 => ltl_nil) (fun _ _ _ _ _ t402 x403 p404 => (lx_ix lm_ow.w (lo_of (lx_list (la_cons lx_int (fun p405 => (la_cons (lx_add lx_int (fun p406 => (lx_callI 0 (ok__law_take fa) (hr.mono (by decide)) fa.g__law_take fa.F__law_take.kp fa.b__law_take (fun _ => (.cons cp_it .nil)) rfl (la_cons lx_int (fun p407 => la_nil)) (fun _ => rfl)))) (fun p409 => la_nil)))) eI (fun a : Int × Int × Unit => [a.1, a.2.1]) (fun _ => (.cons (.cons .nil))))) (fun p410 => (lx_intB fa.z_int (lx_cmp (lc_eqI (lx_callI 0 (ok__law_take fa) (hr.mono (by decide)) fa.g__law_take fa.F__law_take.kp fa.b__law_take (fun _ => (.cons cp_it .nil)) rfl (la_cons (lx_var 3 cp_it rfl) (fun p411 => la_nil)) (fun _ => rfl)) (fun p413 => lx_int)) (nomark _)))) (fun _ _ => trivial))) (fun t402 x403 p404 p415 => p415.2.1.2) (fun t402 x403 p404 p415 => by exact (.keep (.keep (.keep (.keep (.keep (.drop Sub.nil))))))) (fun t402 x403 p404 => t402) (fun t402 x403 p404 => by exact (.keep (.keep (.keep (.keep (.keep (.drop Sub.nil)))))))))) (fun t398 x399 p400 p419 => p419) (fun t398 x399 p400 p419 => by exact (.keep (.keep (.keep (.keep (.drop (.keep Sub.nil))))))) (fun t398 x399 p400 => t398) (fun t398 x399 p400 => by exact (.keep (.keep (.keep (.keep (.drop (.keep Sub.nil))))))))) (fun p => p) (fun p => (.keep (.drop (.drop (.drop (.keep (.keep Sub.nil))))))))))))
    (by first | (unfold m__law_plate; dsimp only [id]; done) | (unfold m__law_plate; dsimp only [id]; rfl) | rfl)
abbrev n__law_all : List Str := ["depths", "found", "y", "x", "high", "wide", "cells", "b"]
theorem sc__law_all : FnScope n__law_all ["depths"] (defScope s__law_all) := ⟨rfl, rfl, rfl, by decide +kernel, rfl, by decide +kernel, by decide +kernel⟩
abbrev sp__law_all (K : Fg) : Sp := spL K (ls (ls (it eI))) (fun a : Unit => []) (it (eL (eT4 eI eI eI eI))) (fun t0 a => m__law_all t0 )
set_option maxHeartbeats 0 in
theorem ok__law_all (fa : Fa K mg) : FnOk P w K mg base CX0 1 fa.f__law_all fa.fd__law_all ["depths"] (sp__law_all K) := by
  refine fnL fa.F__law_all sc__law_all 7 rfl (fun _ => rfl) fun cdv A' outer s H E hr => ?_
  have nd := sc__law_all.nd
  have hu := hr.units
  have hu5 : (A'.deeper (envOfC "_law_all" (defScope s__law_all) s.heap.objs.size fa.f__law_all cdv)).units + 65 < cLine := by have := hr.un; omega
  rintro a_depths _
  exact lb_use (env := [.lk (List (List Int)) (ls (ls (it eI))) a_depths, .un, .un, .un, .un, .un, .un, .un])
    (lb_set 1 nd (lx_list la_nil (eT4 eI eI eI eI) (fun _ => []) (fun _ => .nil)) (fun v_found_423 p424 => (lb_for (envT := (fun t426 : (List (Int × Int × Int × Int)) => [.lk (List (List Int)) (ls (ls (it eI))) a_depths, .st none (List (Int × Int × Int × Int)) (ls (it (eT4 eI eI eI eI))) t426, .un, .un, .un, .un, .un, .un])) PassesOwn.never rfl (li_range1 (by rfl) fa.z_range (lx_lenO lm_ow.w fa.z_len (lo_lk 0 rfl) (fun _ => rfl))) (fun p425 => v_found_423) (fun p425 => (Sub.refl _)) (fun t426 => (lg_name 2 nd)) (fun x427 t426 kc428 kb429 => (lb_for (envT := (fun t432 : (List (Int × Int × Int × Int)) => [.lk (List (List Int)) (ls (ls (it eI))) a_depths, .st none (List (Int × Int × Int × Int)) (ls (it (eT4 eI eI eI eI))) t432, .st none Int (it eI) x427, .un, .un, .un, .un, .un])) PassesOwn.never rfl (li_range1 (by rfl) fa.z_range (lx_len lm_ow.w fa.z_len (lo_ixK 0 rfl lx_int (fun _ => rfl)) (fun _ => rfl))) (fun p431 => t426) (fun p431 => (Sub.refl _)) (fun t432 => (lg_name 3 nd)) (fun x433 t432 kc434 kb435 => (lb_for (envT := (fun t441 : (List (Int × Int × Int × Int)) => [.lk (List (List Int)) (ls (ls (it eI))) a_depths, .st none (List (Int × Int × Int × Int)) (ls (it (eT4 eI eI eI eI))) t441, .st none Int (it eI) x427, .st none Int (it eI) x433, .un, .un, .un, .un])) PassesOwn.never rfl (li_range2 (by rfl) fa.z_range lx_int (fun p436 => (lx_add (lx_sub (lx_lenO lm_ow.w fa.z_len (lo_lk 0 rfl) (fun _ => rfl)) (fun p438 => (lx_var 2 cp_it rfl))) (fun p439 => lx_int)))) (fun p440 => t432) (fun p440 => (Sub.refl _)) (fun t441 => (lg_name 4 nd)) (fun x442 t441 kc443 kb444 => (lb_for (envT := (fun t452 : (List (Int × Int × Int × Int)) => [.lk (List (List Int)) (ls (ls (it eI))) a_depths, .st none (List (Int × Int × Int × Int)) (ls (it (eT4 eI eI eI eI))) t452, .st none Int (it eI) x427, .st none Int (it eI) x433, .st none Int (it eI) x442, .un, .un, .un])) PassesOwn.never rfl (li_range2 (by rfl) fa.z_range lx_int (fun p445 => (lx_add (lx_sub (lx_len lm_ow.w fa.z_len (lo_ixK 0 rfl lx_int (fun _ => rfl)) (fun _ => rfl)) (fun p449 => (lx_var 3 cp_it rfl))) (fun p450 => lx_int)))) (fun p451 => t441) (fun p451 => (Sub.refl _)) (fun t452 => (lg_name 5 nd)) (fun x453 t452 kc454 kb455 => (lb_set 6 nd (lx_list la_nil eI (fun _ => []) (fun _ => .nil)) (fun v_cells_456 p457 => (lb_for (envT := (fun t461 : (List Int) => [.lk (List (List Int)) (ls (ls (it eI))) a_depths, .st none (List (Int × Int × Int × Int)) (ls (it (eT4 eI eI eI eI))) t452, .st none Int (it eI) x427, .st none Int (it eI) x433, .st none Int (it eI) x442, .st none Int (it eI) x453, .st none (List Int) (ls (it eI)) t461, .un])) PassesOwn.never rfl (li_range2 (by rfl) fa.z_range (lx_var 2 cp_it rfl) (fun p458 => (lx_add (lx_var 2 cp_it rfl) (fun p459 => (lx_var 4 cp_it rfl))))) (fun p460 => v_cells_456) (fun p460 => (Sub.refl _)) (fun t461 => (lg_name 7 nd)) (fun x462 t461 kc463 kb464 => (lb_ext 6 rfl lm_ow (lx_sl2O lm_ow.w (lo_ixK 0 rfl (lx_var 7 cp_it rfl) (fun _ => rfl)) (fun p468 => (lx_var 3 cp_it rfl)) (fun p468 p469 => (lx_add (lx_var 3 cp_it rfl) (fun p470 => (lx_var 5 cp_it rfl)))) (fun _ _ _ => rfl)) (fun _ => rfl) (fun y466 p465 => (lb_end (t461 ++ y466) (.keep (.keep (.keep (.keep (.keep (.keep (.keep (.drop Sub.nil)))))))))))) (fun t473 => (lb_if (env1 := (fun j477 : (List (Int × Int × Int × Int)) => [.lk (List (List Int)) (ls (ls (it eI))) a_depths, .st none (List (Int × Int × Int × Int)) (ls (it (eT4 eI eI eI eI))) j477, .st none Int (it eI) x427, .st none Int (it eI) x433, .st none Int (it eI) x442, .st none Int (it eI) x453, .st none (List Int) (ls (it eI)) t473, .un])) (lt_cmp (lc_eqI (lx_maxI rfl lm_ow.w fa.z_max (lo_var 6 rfl) (fun _ => rfl)) (fun p475 => lx_int)) (nomark _)) (fun p476 => (lb_app 1 rfl (lx_tup (la_cons (lx_var 3 cp_it rfl) (fun p481 => (la_cons (lx_var 2 cp_it rfl) (fun p482 => (la_cons (lx_var 5 cp_it rfl) (fun p483 => (la_cons (lx_var 4 cp_it rfl) (fun p484 => la_nil)))))))) (eT4 eI eI eI eI) (fun a : Int × Int × Int × Int × Unit => (a.1, a.2.1, a.2.2.1, a.2.2.2.1)) (fun a => [eI.enc a.1, eI.enc a.2.1, eI.enc a.2.2.1, eI.enc a.2.2.2.1]) (fun _ => (.cons (.cons (.cons (.cons .nil))))) (fun _ => rfl)) (fun _ => rfl) (fun y480 p479 => (lb_end (t452 ++ [y480]) (Sub.refl _))))) (fun p476 => (lb_end t452 (Sub.refl _))) (fun j477 => (lb_end j477 (.keep (.keep (.keep (.keep (.keep (.drop (.drop (.keep Sub.nil)))))))))))))))) (fun t487 => (lb_end t487 (.keep (.keep (.keep (.keep (.drop (.keep (.keep (.keep Sub.nil)))))))))))) (fun t489 => (lb_end t489 (.keep (.keep (.keep (.drop (.keep (.keep (.keep (.keep Sub.nil)))))))))))) (fun t491 => (lb_end t491 (.keep (.keep (.drop (.keep (.keep (.keep (.keep (.keep Sub.nil)))))))))))) (fun t493 => (lb_ret (lx_frz 1 (fz_ls fz_it) rfl) (fun _ => ()) (fun p => (.drop (.drop (.keep (.keep (.keep (.keep (.keep (.keep Sub.nil))))))))))))))
    (by first | (unfold m__law_all; dsimp only [id]; done) | (unfold m__law_all; dsimp only [id]; rfl) | rfl)
abbrev n__law_bar : List Str := ["rows", "y", "row"]
theorem sc__law_bar : FnScope n__law_bar ["rows", "y"] (defScope s__law_bar) := ⟨rfl, rfl, rfl, by decide +kernel, rfl, by decide +kernel, by decide +kernel⟩
abbrev sp__law_bar (K : Fg) : Sp := spP K (fun a : (List (Int × Int × Int × Int)) × Int × Unit => [.st none (List (Int × Int × Int × Int)) (it (eL (eT4 eI eI eI eI))) a.1, .st none Int (it eI) a.2.1]) (it eI) (fun a => m__law_bar a.1 a.2.1)
set_option maxHeartbeats 0 in
theorem ok__law_bar (fa : Fa K mg) : FnOk P w K mg base CX0 1 fa.f__law_bar fa.fd__law_bar ["rows", "y"] (sp__law_bar K) := by
  refine fnP fa.F__law_bar sc__law_bar 1 rfl (fun _ => rfl) fun cdv A' outer s H E hr => ?_
  have nd := sc__law_bar.nd
  have hu := hr.units
  have hu5 : (A'.deeper (envOfC "_law_bar" (defScope s__law_bar) s.heap.objs.size fa.f__law_bar cdv)).units + 65 < cLine := by have := hr.un; omega
  rintro ⟨a_rows, a_y, _⟩
  exact lb_use (env := [.st none (List (Int × Int × Int × Int)) (it (eL (eT4 eI eI eI eI))) a_rows, .st none Int (it eI) a_y, .un])
    (lb_ret (lx_maxI rfl lm_ow.w fa.z_max (lo_of (lx_cat lm_ow lm_ow (lo_of (lx_list (la_cons lx_int (fun p495 => la_nil)) eI (fun a : Int × Unit => [a.1]) (fun _ => (.cons .nil)))) (fun p496 => (lo_of (lx_lc (envT := (fun t498 : Unit => [.st none (List (Int × Int × Int × Int)) (it (eL (eT4 eI eI eI eI))) a_rows, .st none Int (it eI) a_y, .un])) rfl nd (blkOk_by (N := n__law_bar) (sc := defScope s__law_bar) (own := [("row", 2)]) (by decide +kernel)) (li_list lm_sh.w (lx_var 0 cp_it rfl)) (fun p497 => ()) (fun p497 => (Sub.refl _)) (by intro t i s hm he; simp at hm; subst hm; (have e := Option.some.inj he; exact e.symm)) (fun _ _ _ _ _ t498 => (lg_name 2 nd)) (fun _ _ _ _ _ t498 x499 => (ltl_one (lt_cmp (lc_eqI (lx_add (lx_part part4_1 (lx_var 2 cp_it rfl)) (fun p500 => (lx_part part4_3 (lx_var 2 cp_it rfl)))) (fun p501 => (lx_add (lx_var 1 cp_it rfl) (fun p502 => lx_int)))) (nomark _)))) (fun _ _ _ _ _ t498 x499 p503 => (lx_mul (lx_part part4_2 (lx_var 2 cp_it rfl)) (fun p504 => (lx_part part4_3 (lx_var 2 cp_it rfl))))) (fun t498 x499 p503 p505 => ()) (fun t498 x499 p503 p505 => by exact (.keep (.keep (.drop Sub.nil)))) (fun t498 x499 p503 => ()) (fun t498 x499 p503 => by exact (.keep (.keep (.drop Sub.nil))))))) (fun _ _ => trivial) (fun _ _ => trivial))) (fun _ => trivial)) (fun _ => ()) (fun p => (.drop (.drop (.keep Sub.nil)))))
    (by first | (unfold m__law_bar; dsimp only [id]; done) | (unfold m__law_bar; dsimp only [id]; rfl) | rfl)
abbrev n__law_fault : List Str := ["depths", "told", "area", "box", "bars", "rows", "y"]
theorem sc__law_fault : FnScope n__law_fault ["depths", "told"] (defScope s__law_fault) := ⟨rfl, rfl, rfl, by decide +kernel, rfl, by decide +kernel, by decide +kernel⟩
abbrev sp__law_fault (K : Fg) : Sp := spP K (fun a : (List (List Int)) × (Int × (Option (Int × Int × Int × Int)) × (List Int)) × Unit => [.st none (List (List Int)) (it (eL (eL eI))) a.1, .st none (Int × (Option (Int × Int × Int × Int)) × (List Int)) (it (eT3 eI (eO (eT4 eI eI eI eI) nnT4) (eL eI))) a.2.1]) (it eD) (fun a => m__law_fault a.1 a.2.1)
set_option maxHeartbeats 0 in
theorem ok__law_fault (fa : Fa K mg) : FnOk P w K mg base CX0 2 fa.f__law_fault fa.fd__law_fault ["depths", "told"] (sp__law_fault K) := by
  refine fnP fa.F__law_fault sc__law_fault 5 rfl (fun _ => rfl) fun cdv A' outer s H E hr => ?_
  have nd := sc__law_fault.nd
  have hu := hr.units
  have hu5 : (A'.deeper (envOfC "_law_fault" (defScope s__law_fault) s.heap.objs.size fa.f__law_fault cdv)).units + 65 < cLine := by have := hr.un; omega
  rintro ⟨a_depths, a_told, _⟩
  exact lb_use (env := [.st none (List (List Int)) (it (eL (eL eI))) a_depths, .st none (Int × (Option (Int × Int × Int × Int)) × (List Int)) (it (eT3 eI (eO (eT4 eI eI eI eI) nnT4) (eL eI))) a_told, .un, .un, .un, .un, .un])
    (lb_asg (lx_var 1 cp_it rfl) (fun p513 => (lg_tup (E := (eT3 eI (eO (eT4 eI eI eI eI) nnT4) (eL eI))) (lgs_cons (lg_name 2 nd) (fun _ => (lgs_cons (lg_name 3 nd) (fun _ => (lgs_cons (lg_name 4 nd) (fun _ => lgs_nil)))))) (fun x => (x.1, x.2.1, x.2.2, ())) (fun a : Int × (Option (Int × Int × Int × Int)) × (List Int) × Unit => [eI.enc (a.1), (eO (eT4 eI eI eI eI) nnT4).enc (a.2.1), (eL eI).enc (a.2.2.1)]) (fun _ => (.cons (.cons (.cons .nil)))) (fun _ => rfl) rfl (fun _ => rfl))) (fun x512 p513 => (lb_set 5 nd (lx_callLS (ok__law_all fa) (hr.mono (by decide)) fa.g__law_all fa.F__law_all.kp fa.b__law_all (fun _ => .nil) (la_cons (lx_var 0 cp_it rfl) (fun p515 => la_nil))) (fun v_rows_516 p517 => (lb_ifr (lt_cmp (lc_neT hu dv_it dv_it dtB evB (lo_of (lx_cmp (lc_isN (lx_var 3 cp_it rfl)) (nomark _))) (fun p518 => (lo_of (lx_cmp (lc_eqI (lx_var 2 cp_it rfl) (fun p519 => lx_int)) (nomark _)))) (fun _ _ => trivial) (fun _ _ => trivial)) (nomark _)) (fun p520 => (lb_ret (lx_tup (la_cons lx_str (fun p521 => la_nil)) eD (fun a : Str × Unit => PyData.tuple [eS.enc a.1]) (fun a => [eS.enc a.1]) (fun _ => (.cons .nil)) (fun _ => rfl)) (fun _ => ()) (fun p => (.drop (.drop (.drop (.drop (.drop (.drop (.keep Sub.nil)))))))))) (fun p520 => (lb_ifr (lt_cut (lt_w (lw_and (lt_cmp (lc_notN (lx_var 3 cp_it rfl)) (nomark _)) (fun p522 => (lw_and1 (lt_cut (lt_w (lw_or (lt_cmp (lc_notInT hu5 dv_it dv_it (dtT4 dtI dtI dtI dtI) (evT4 evI evI evI evI) (lo_of (lx_cast (E' := (eT4 eI eI eI eI)) (lx_var 3 cp_it rfl) id (fun a b h => by have h : a = some b := h; subst h; rfl))) (fun p523 => (lo_of (lx_var 5 cp_it rfl))) (fun _ _ => trivial) (fun _ _ => trivial)) (by rfl)) (fun p525 => (lw_or1 (lt_cmp (lc_neI (lx_mul (lx_part part4_2 (lx_cast (E' := (eT4 eI eI eI eI)) (lx_var 3 cp_it rfl) id (fun a b h => by have h : a = some b := h; subst h; rfl))) (fun p527 => (lx_part part4_3 (lx_cast (E' := (eT4 eI eI eI eI)) (lx_var 3 cp_it rfl) id (fun a b h => by have h : a = some b := h; subst h; rfl))))) (fun p529 => (lx_var 2 cp_it rfl))) (nomark _)))) (fun p525 _ => Sub.refl _))) (fun _ => rfl)))) (fun p522 _ => Sub.refl _))) (fun _ => rfl)) (fun p532 => (lb_ret (lx_tup (la_cons lx_str (fun p533 => la_nil)) eD (fun a : Str × Unit => PyData.tuple [eS.enc a.1]) (fun a => [eS.enc a.1]) (fun _ => (.cons .nil)) (fun _ => rfl)) (fun _ => ()) (fun p => (.drop (.drop (.drop (.drop (.drop (.drop (.keep Sub.nil)))))))))) (fun p532 => (lb_ifr (lt_cmp (lc_neI (lx_len lm_sh.w fa.z_len (lo_of (lx_var 4 cp_it rfl)) (fun _ => trivial)) (fun p534 => (lx_len lm_sh.w fa.z_len (lo_of (lx_var 0 cp_it rfl)) (fun _ => trivial)))) (nomark _)) (fun p535 => (lb_ret (lx_tup (la_cons lx_str (fun p536 => la_nil)) eD (fun a : Str × Unit => PyData.tuple [eS.enc a.1]) (fun a => [eS.enc a.1]) (fun _ => (.cons .nil)) (fun _ => rfl)) (fun _ => ()) (fun p => (.drop (.drop (.drop (.drop (.drop (.drop (.keep Sub.nil)))))))))) (fun p535 => (lb_for (envT := (fun t538 : Unit => [.st none (List (List Int)) (it (eL (eL eI))) a_depths, .st none (Int × (Option (Int × Int × Int × Int)) × (List Int)) (it (eT3 eI (eO (eT4 eI eI eI eI) nnT4) (eL eI))) a_told, .st none Int (it eI) x512.1, .st none (Option (Int × Int × Int × Int)) (it (eO (eT4 eI eI eI eI) nnT4)) x512.2.1, .st none (List Int) (it (eL eI)) x512.2.2, .st none (List (Int × Int × Int × Int)) (it (eL (eT4 eI eI eI eI))) v_rows_516, .un])) PassesOwn.never rfl (li_range1 (by rfl) fa.z_range (lx_len lm_sh.w fa.z_len (lo_of (lx_var 4 cp_it rfl)) (fun _ => trivial))) (fun p537 => ()) (fun p537 => (Sub.refl _)) (fun t538 => (lg_name 6 nd)) (fun x539 t538 kc540 kb541 => (lb_ifr (lt_cut (lt_w (lw_or (lt_cmp (lc_gt (lx_ix lm_sh.w (lo_of (lx_var 4 cp_it rfl)) (fun p542 => (lx_var 6 cp_it rfl)) (fun _ _ => trivial)) (fun p544 => (lx_var 2 cp_it rfl))) (nomark _)) (fun p545 => (lw_or1 (lt_cmp (lc_lt (lx_ix lm_sh.w (lo_of (lx_var 4 cp_it rfl)) (fun p546 => (lx_var 6 cp_it rfl)) (fun _ _ => trivial)) (fun p548 => (lx_call (ok__law_bar fa) (hr.mono (by decide)) fa.g__law_bar fa.F__law_bar.kp fa.b__law_bar (fun _ => (.cons cp_it (.cons cp_it .nil))) (la_cons (lx_var 5 cp_it rfl) (fun p549 => (la_cons (lx_var 6 cp_it rfl) (fun p550 => la_nil))))))) (nomark _)))) (fun p545 _ => Sub.refl _))) (fun _ => rfl)) (fun p553 => (lb_ret (lx_tup (la_cons lx_str (fun p554 => (la_cons (lx_var 6 cp_it rfl) (fun p555 => la_nil)))) eD (fun a : Str × Int × Unit => PyData.tuple [eS.enc a.1, eI.enc a.2.1]) (fun a => [eS.enc a.1, eI.enc a.2.1]) (fun _ => (.cons (.cons .nil))) (fun _ => rfl)) (fun _ => ()) (fun p => (.drop (.drop (.drop (.drop (.drop (.drop (.drop Sub.nil)))))))))) (fun p553 => (lb_end () (.keep (.keep (.keep (.keep (.keep (.keep (.drop Sub.nil))))))))))) (fun t557 => (lb_ret (lx_as (E' := eD) lx_non eN.enc (fun _ => rfl)) (fun _ => ()) (fun p => (.drop (.drop (.drop (.drop (.drop (.drop (.keep Sub.nil)))))))))))))))))))))
    (by first | (unfold m__law_fault; dsimp only [id]; done) | (unfold m__law_fault; dsimp only [id]; rfl) | rfl)
abbrev n__law_kept : List Str := ["depths", "least", "left", "row", "found", "rows", "area", "box", "b", "a"]
theorem sc__law_kept : FnScope n__law_kept ["depths", "least"] (defScope s__law_kept) := ⟨rfl, rfl, rfl, by decide +kernel, rfl, by decide +kernel, by decide +kernel⟩
abbrev sp__law_kept (K : Fg) (fu : Nat) : Sp := spP K (fun a : (List (List Int)) × Int × Unit => [.st none (List (List Int)) (it (eL (eL eI))) a.1, .st none Int (it eI) a.2.1]) (it (eL (eT4 eI eI eI eI))) (fun a => m__law_kept fu a.1 a.2.1)
set_option maxHeartbeats 0 in
theorem ok__law_kept (fa : Fa K mg) (fu : Nat) : FnOk P w K mg base CX0 2 fa.f__law_kept fa.fd__law_kept ["depths", "least"] (sp__law_kept K fu) := by
  refine fnP fa.F__law_kept sc__law_kept 8 rfl (fun _ => rfl) fun cdv A' outer s H E hr => ?_
  have nd := sc__law_kept.nd
  have hu := hr.units
  have hu5 : (A'.deeper (envOfC "_law_kept" (defScope s__law_kept) s.heap.objs.size fa.f__law_kept cdv)).units + 65 < cLine := by have := hr.un; omega
  rintro ⟨a_depths, a_least, _⟩
  exact lb_use (env := [.st none (List (List Int)) (it (eL (eL eI))) a_depths, .st none Int (it eI) a_least, .un, .un, .un, .un, .un, .un, .un, .un])
    (lb_setLc (envT := (fun t562 : Unit => [.st none (List (List Int)) (it (eL (eL eI))) a_depths, .st none Int (it eI) a_least, .un, .un, .un, .un, .un, .un, .un, .un])) rfl nd (blkOk_by (N := n__law_kept) (sc := defScope s__law_kept) (own := [("row", 3)]) (by decide +kernel)) 2 (li_list lm_sh.w (lx_var 0 cp_it rfl)) (fun p561 => ()) (fun p561 => (Sub.refl _)) (by intro t i s hm he; simp at hm; subst hm; (have e := Option.some.inj he; exact e.symm)) (fun _ _ _ _ _ t562 => (lg_name 3 nd)) (fun _ _ _ _ _ t562 x563 => ltl_nil) (fun _ _ _ _ _ t562 x563 p564 => (lx_listof lm_sh.w fa.z_list (lo_of (lx_var 3 cp_it rfl)) (fun _ => trivial))) (fun t562 x563 p564 p565 => ()) (fun t562 x563 p564 p565 => by exact (.keep (.keep (.keep (.drop (.keep (.keep (.keep (.keep (.keep (.keep Sub.nil))))))))))) (fun t562 x563 p564 => ()) (fun t562 x563 p564 => by exact (.keep (.keep (.keep (.drop (.keep (.keep (.keep (.keep (.keep (.keep Sub.nil))))))))))) (fun v_left_569 p570 => (lb_set 4 nd (lx_list la_nil (eT4 eI eI eI eI) (fun _ => []) (fun _ => .nil)) (fun v_found_571 p572 => (lb_while (envT := (fun t573 : ((List (List Int)) × (List (Int × Int × Int × Int))) => [.st none (List (List Int)) (it (eL (eL eI))) a_depths, .st none Int (it eI) a_least, .st none (List (List Int)) (ls (ls (it eI))) t573.1, .un, .st none (List (Int × Int × Int × Int)) (ls (it (eT4 eI eI eI eI))) t573.2, .un, .un, .un, .un, .un])) fu PassesOwn.never (v_left_569, v_found_571) (Sub.refl _) (fun t573 => (lt_val lx_bl)) (fun t573 p576 => Sub.refl _) (fun t573 p576 kc574 kb575 => (lb_set 5 nd (lx_callL 2 (ok__law_all fa) (hr.mono (by decide)) fa.g__law_all fa.F__law_all.kp fa.b__law_all (fun _ => .nil) rfl la_nil (fun _ => rfl)) (fun v_rows_578 p579 => (lb_set 6 nd (lx_maxI rfl lm_ow.w fa.z_max (lo_of (lx_cat lm_ow lm_ow (lo_of (lx_list (la_cons lx_int (fun p580 => la_nil)) eI (fun a : Int × Unit => [a.1]) (fun _ => (.cons .nil)))) (fun p581 => (lo_of (lx_lc (envT := (fun t583 : Unit => [.st none (List (List Int)) (it (eL (eL eI))) a_depths, .st none Int (it eI) a_least, .st none (List (List Int)) (ls (ls (it eI))) t573.1, .un, .st none (List (Int × Int × Int × Int)) (ls (it (eT4 eI eI eI eI))) t573.2, .st none (List (Int × Int × Int × Int)) (it (eL (eT4 eI eI eI eI))) v_rows_578, .un, .un, .un, .un])) rfl nd (blkOk_by (N := n__law_kept) (sc := defScope s__law_kept) (own := [("row", 3)]) (by decide +kernel)) (li_list lm_sh.w (lx_var 5 cp_it rfl)) (fun p582 => ()) (fun p582 => (Sub.refl _)) (by intro t i s hm he; simp at hm; subst hm; (have e := Option.some.inj he; exact e.symm)) (fun _ _ _ _ _ t583 => (lg_name 3 nd)) (fun _ _ _ _ _ t583 x584 => ltl_nil) (fun _ _ _ _ _ t583 x584 p585 => (lx_mul (lx_part part4_2 (lx_var 3 cp_it rfl)) (fun p586 => (lx_part part4_3 (lx_var 3 cp_it rfl))))) (fun t583 x584 p585 p587 => ()) (fun t583 x584 p585 p587 => by exact (.keep (.keep (.keep (.drop (.keep (.keep (.keep (.keep (.keep (.keep Sub.nil))))))))))) (fun t583 x584 p585 => ()) (fun t583 x584 p585 => by exact (.keep (.keep (.keep (.drop (.keep (.keep (.keep (.keep (.keep (.keep Sub.nil)))))))))))))) (fun _ _ => trivial) (fun _ _ => trivial))) (fun _ => trivial)) (fun v_area_594 p595 => by exact (lb_ifr (lt_cmp (lc_lt (lx_var 6 cp_it rfl) (fun p596 => (lx_max2 rfl fa.z_max lx_int (fun p597 => (lx_var 1 cp_it rfl))))) (nomark _)) (fun p598 => (lb_ret (lx_frz 4 (fz_ls fz_it) rfl) (fun _ => ()) (fun p => (.drop (.drop (.drop (.keep (.drop (.drop (.drop (.keep (.keep (.keep Sub.nil))))))))))))) (fun p598 => (lb_set 7 nd (lx_minD rfl hu odT4 (dtT4 dtI dtI dtI dtI) lm_ow.w fa.z_min (lo_of (lx_lc (envT := (fun t600 : Unit => [.st none (List (List Int)) (it (eL (eL eI))) a_depths, .st none Int (it eI) a_least, .st none (List (List Int)) (ls (ls (it eI))) t573.1, .un, .st none (List (Int × Int × Int × Int)) (ls (it (eT4 eI eI eI eI))) t573.2, .st none (List (Int × Int × Int × Int)) (it (eL (eT4 eI eI eI eI))) v_rows_578, .st none Int (it eI) v_area_594, .un, .un, .un])) rfl nd (blkOk_by (N := n__law_kept) (sc := defScope s__law_kept) (own := [("row", 3)]) (by decide +kernel)) (li_list lm_sh.w (lx_var 5 cp_it rfl)) (fun p599 => ()) (fun p599 => (Sub.refl _)) (by intro t i s hm he; simp at hm; subst hm; (have e := Option.some.inj he; exact e.symm)) (fun _ _ _ _ _ t600 => (lg_name 3 nd)) (fun _ _ _ _ _ t600 x601 => (ltl_one (lt_cmp (lc_eqI (lx_mul (lx_part part4_2 (lx_var 3 cp_it rfl)) (fun p602 => (lx_part part4_3 (lx_var 3 cp_it rfl)))) (fun p603 => (lx_var 6 cp_it rfl))) (nomark _)))) (fun _ _ _ _ _ t600 x601 p604 => (lx_var 3 cp_it rfl)) (fun t600 x601 p604 p605 => ()) (fun t600 x601 p604 p605 => by exact (.keep (.keep (.keep (.drop (.keep (.keep (.keep (.keep (.keep (.keep Sub.nil))))))))))) (fun t600 x601 p604 => ()) (fun t600 x601 p604 => by exact (.keep (.keep (.keep (.drop (.keep (.keep (.keep (.keep (.keep (.keep Sub.nil))))))))))))) (fun _ => trivial)) (fun v_box_610 p611 => by exact (lb_app 4 rfl (lx_var 7 cp_it rfl) (fun _ => rfl) (fun y613 p612 => (lb_for (envT := (fun t618 : (List (List Int)) => [.st none (List (List Int)) (it (eL (eL eI))) a_depths, .st none Int (it eI) a_least, .st none (List (List Int)) (ls (ls (it eI))) t618, .un, .st none (List (Int × Int × Int × Int)) (ls (it (eT4 eI eI eI eI))) (t573.2 ++ [y613]), .st none (List (Int × Int × Int × Int)) (it (eL (eT4 eI eI eI eI))) v_rows_578, .st none Int (it eI) v_area_594, .st none (Int × Int × Int × Int) (it (eT4 eI eI eI eI)) v_box_610, .un, .un])) PassesOwn.never rfl (li_range2 (by rfl) fa.z_range (lx_part part4_1 (lx_var 7 cp_it rfl)) (fun p615 => (lx_add (lx_part part4_1 (lx_var 7 cp_it rfl)) (fun p616 => (lx_part part4_3 (lx_var 7 cp_it rfl)))))) (fun p617 => t573.1) (fun p617 => (Sub.refl _)) (fun t618 => (lg_name 8 nd)) (fun x619 t618 kc620 kb621 => (lb_for (envT := (fun t625 : (List (List Int)) => [.st none (List (List Int)) (it (eL (eL eI))) a_depths, .st none Int (it eI) a_least, .st none (List (List Int)) (ls (ls (it eI))) t625, .un, .st none (List (Int × Int × Int × Int)) (ls (it (eT4 eI eI eI eI))) (t573.2 ++ [y613]), .st none (List (Int × Int × Int × Int)) (it (eL (eT4 eI eI eI eI))) v_rows_578, .st none Int (it eI) v_area_594, .st none (Int × Int × Int × Int) (it (eT4 eI eI eI eI)) v_box_610, .st none Int (it eI) x619, .un])) PassesOwn.never rfl (li_range2 (by rfl) fa.z_range (lx_part part4_0 (lx_var 7 cp_it rfl)) (fun p622 => (lx_add (lx_part part4_0 (lx_var 7 cp_it rfl)) (fun p623 => (lx_part part4_2 (lx_var 7 cp_it rfl)))))) (fun p624 => t618) (fun p624 => (Sub.refl _)) (fun t625 => (lg_name 9 nd)) (fun x626 t625 kc627 kb628 => (lb_setIx2 (E := eI) (w := none) 2 lx_int (fun _ => rfl) (fun y629 p630 => (lx_var 8 cp_it rfl)) (fun _ _ _ => rfl) (fun q636 vs637 y629 p630 p632 => (lx_var 9 cp_it rfl)) (fun _ _ _ _ _ _ => rfl) (fun q636 vs637 y629 p630 a631 p632 b633 p634 z635 => by exact (lb_end z635 (.keep (.keep (.keep (.keep (.keep (.keep (.keep (.keep (.keep (.drop Sub.nil)))))))))))))) (fun t640 => (lb_end t640 (.keep (.keep (.keep (.keep (.keep (.keep (.keep (.keep (.drop (.keep Sub.nil)))))))))))))) (fun t642 => (lb_end (t642, (t573.2 ++ [y613])) (.keep (.keep (.keep (.keep (.keep (.drop (.drop (.drop (.keep (.keep Sub.nil)))))))))))))))))))))))) (fun t644 => lb_dead))))) (sw_true rfl rfl rfl (by decide +kernel)))
    (by first | (unfold m__law_kept; dsimp only [id]; done) | (unfold m__law_kept; dsimp only [id]; rfl) | rfl)
abbrev n_law : List Str := ["script", "state", "depths", "kept", "told", "rows", "most", "row", "least", "box", "k", "area", "bars", "kind", "y"]
theorem sc_law : FnScope n_law ["script"] (defScope s_law) := ⟨rfl, rfl, rfl, by decide +kernel, rfl, by decide +kernel, by decide +kernel⟩
abbrev sp_law (K : Fg) (fu : Nat) : Sp := spP K (fun a : List Int × Unit => [.st none (List Int) scr a.1]) (it eB) (fun a => m_law fu a.1)
set_option maxHeartbeats 0 in
theorem ok_law (fa : Fa K mg) (fu : Nat) : FnG P w K mg base 4 fa.f_law fa.fd_law ["script"] (sp_law K fu) := by
  refine fnPG fa.F_law sc_law 14 rfl (fun _ => rfl) fun cdv A' outer s H E hgd hr => ?_
  have nd := sc_law.nd
  have hu := hr.units
  have hu5 : (A'.deeper (envOfC "law" (defScope s_law) s.heap.objs.size fa.f_law cdv)).units + 65 < cLine := by have := hr.un; omega
  rintro ⟨a_script, _⟩
  exact lb_use (env := [.st none (List Int) scr a_script, .un, .un, .un, .un, .un, .un, .un, .un, .un, .un, .un, .un, .un, .un])
    (lb_set 1 nd (lx_call (ok__law_state fa) (hr.mono (by decide)) fa.g__law_state fa.F__law_state.kp fa.b__law_state (fun _ => (.cons cp_scr .nil)) (la_cons (lx_var 0 cp_scr rfl) (fun p646 => la_nil))) (fun v_state_648 p649 => (lb_set 2 nd (lx_callI 1 (ok__law_plate fa) (hr.mono (by decide)) fa.g__law_plate fa.F__law_plate.kp fa.b__law_plate (fun _ => .nil) rfl la_nil (fun _ => rfl)) (fun v_depths_651 p652 => (lb_set 3 nd (lx_repr hgd hu dv_it fa.z_repr (lo_of (lx_var 2 cp_it rfl)) (fun _ => trivial)) (fun v_kept_654 p655 => (lb_set 4 nd (lx_callLS (ok_offcut fa) (hr.mono (by decide)) fa.g_offcut fa.F_offcut.kp fa.b_offcut (fun _ => .nil) (la_cons (lx_var 2 cp_it rfl) (fun p657 => la_nil))) (fun v_told_658 p659 => (lb_set 5 nd (lx_callLS (ok__law_all fa) (hr.mono (by decide)) fa.g__law_all fa.F__law_all.kp fa.b__law_all (fun _ => .nil) (la_cons (lx_var 2 cp_it rfl) (fun p661 => la_nil))) (fun v_rows_662 p663 => (lb_set 6 nd (lx_maxI rfl lm_ow.w fa.z_max (lo_of (lx_cat lm_ow lm_ow (lo_of (lx_list (la_cons lx_int (fun p664 => la_nil)) eI (fun a : Int × Unit => [a.1]) (fun _ => (.cons .nil)))) (fun p665 => (lo_of (lx_lc (envT := (fun t667 : Unit => [.st none (List Int) scr a_script, .st none TSt stT p652.2, .st none (List (List Int)) (it (eL (eL eI))) v_depths_651, .st none Str (it eS) v_kept_654, .st none (Int × (Option (Int × Int × Int × Int)) × (List Int)) (it (eT3 eI (eO (eT4 eI eI eI eI) nnT4) (eL eI))) v_told_658, .st none (List (Int × Int × Int × Int)) (it (eL (eT4 eI eI eI eI))) v_rows_662, .un, .un, .un, .un, .un, .un, .un, .un, .un])) rfl nd (blkOk_by (N := n_law) (sc := defScope s_law) (own := [("row", 7)]) (by decide +kernel)) (li_list lm_sh.w (lx_var 5 cp_it rfl)) (fun p666 => ()) (fun p666 => (Sub.refl _)) (by intro t i s hm he; simp at hm; subst hm; (have e := Option.some.inj he; exact e.symm)) (fun _ _ _ _ _ t667 => (lg_name 7 nd)) (fun _ _ _ _ _ t667 x668 => ltl_nil) (fun _ _ _ _ _ t667 x668 p669 => (lx_mul (lx_part part4_2 (lx_var 7 cp_it rfl)) (fun p670 => (lx_part part4_3 (lx_var 7 cp_it rfl))))) (fun t667 x668 p669 p671 => ()) (fun t667 x668 p669 p671 => by exact (.keep (.keep (.keep (.keep (.keep (.keep (.keep (.drop (.keep (.keep (.keep (.keep (.keep (.keep (.keep Sub.nil)))))))))))))))) (fun t667 x668 p669 => ()) (fun t667 x668 p669 => by exact (.keep (.keep (.keep (.keep (.keep (.keep (.keep (.drop (.keep (.keep (.keep (.keep (.keep (.keep (.keep Sub.nil))))))))))))))))))) (fun _ _ => trivial) (fun _ _ => trivial))) (fun _ => trivial)) (fun v_most_678 p679 => by exact (lb_ifr (lt_cut (lt_w (lw_or (lt_not (lt_val (lx_isT (fun _ => ⟨_, rfl⟩) fa.z_isinstance fa.z_tuple (lx_var 4 cp_it rfl)))) (fun p680 => (lw_or (lt_cmp (lc_neI (lx_part part3_0 (lx_var 4 cp_it rfl)) (fun p681 => (lx_var 6 cp_it rfl))) (nomark _)) (fun p682 => (lw_or (lt_cmp (lc_notN (lx_call (ok__law_fault fa) (hr.mono (by decide)) fa.g__law_fault fa.F__law_fault.kp fa.b__law_fault (fun _ => (.cons cp_it (.cons cp_it .nil))) (la_cons (lx_var 2 cp_it rfl) (fun p683 => (la_cons (lx_var 4 cp_it rfl) (fun p684 => la_nil)))))) (nomark _)) (fun p686 => (lw_or1 (lt_cmp (lc_notN (lx_call (ok_offcut_fault fa) (hr.mono (by decide)) fa.g_offcut_fault fa.F_offcut_fault.kp fa.b_offcut_fault (fun _ => (.cons cp_it (.cons cp_it .nil))) (la_cons (lx_var 2 cp_it rfl) (fun p687 => (la_cons (lx_var 4 cp_it rfl) (fun p688 => la_nil)))))) (nomark _)))) (fun p686 _ => Sub.refl _))) (fun p682 _ => Sub.refl _))) (fun p680 _ => Sub.refl _))) (fun _ => rfl)) (fun p691 => (lb_ret lx_bl (fun _ => ()) (fun p => (.drop (.drop (.drop (.drop (.drop (.drop (.drop (.keep (.keep (.keep (.keep (.keep (.keep (.keep (.keep Sub.nil)))))))))))))))))) (fun p691 => (lb_set 8 nd (lx_callI 1 (ok__law_take fa) (hr.mono (by decide)) fa.g__law_take fa.F__law_take.kp fa.b__law_take (fun _ => (.cons cp_it .nil)) rfl (la_cons lx_int (fun p692 => la_nil)) (fun _ => rfl)) (fun v_least_694 p695 => (lb_ifr (lt_cut (lt_w (lw_or (lt_cmp (lc_neT hu dv_it dv_it (dtL (dtT4 dtI dtI dtI dtI)) (evL (evT4 evI evI evI evI)) (lo_of (lx_call (ok_offcuts fa fu) (hr.mono (by decide)) fa.g_offcuts fa.F_offcuts.kp fa.b_offcuts (fun _ => (.cons cp_it (.cons cp_it .nil))) (la_cons (lx_var 2 cp_it rfl) (fun p696 => (la_cons (lx_var 8 cp_it rfl) (fun p697 => la_nil)))))) (fun p699 => (lo_of (lx_call (ok__law_kept fa fu) (hr.mono (by decide)) fa.g__law_kept fa.F__law_kept.kp fa.b__law_kept (fun _ => (.cons cp_it (.cons cp_it .nil))) (la_cons (lx_var 2 cp_it rfl) (fun p700 => (la_cons (lx_var 8 cp_it rfl) (fun p701 => la_nil))))))) (fun _ _ => trivial) (fun _ _ => trivial)) (nomark _)) (fun p703 => (lw_or1 (lt_cmp (lc_neS (lx_repr hgd hu dv_it fa.z_repr (lo_of (lx_var 2 cp_it rfl)) (fun _ => trivial)) (fun p705 => (lx_var 3 cp_it rfl))) (nomark _)))) (fun p703 _ => Sub.refl _))) (fun _ => rfl)) (fun p707 => (lb_ret lx_bl (fun _ => ()) (fun p => (.drop (.drop (.drop (.drop (.drop (.drop (.drop (.keep (.drop (.keep (.keep (.keep (.keep (.keep (.keep Sub.nil)))))))))))))))))) (fun p707 => (lb_for (envT := (fun t719 : Unit => [.st none (List Int) scr a_script, .st none TSt stT p695.2, .st none (List (List Int)) (it (eL (eL eI))) v_depths_651, .st none Str (it eS) v_kept_654, .st none (Int × (Option (Int × Int × Int × Int)) × (List Int)) (it (eT3 eI (eO (eT4 eI eI eI eI) nnT4) (eL eI))) v_told_658, .st none (List (Int × Int × Int × Int)) (it (eL (eT4 eI eI eI eI))) v_rows_662, .st none Int (it eI) v_most_678, .un, .st none Int (it eI) v_least_694, .un, .un, .un, .un, .un, .un])) PassesOwn.never rfl (li_list lm_ow.w (lx_lc (envT := (fun t709 : Unit => [.st none (List Int) scr a_script, .st none TSt stT p695.2, .st none (List (List Int)) (it (eL (eL eI))) v_depths_651, .st none Str (it eS) v_kept_654, .st none (Int × (Option (Int × Int × Int × Int)) × (List Int)) (it (eT3 eI (eO (eT4 eI eI eI eI) nnT4) (eL eI))) v_told_658, .st none (List (Int × Int × Int × Int)) (it (eL (eT4 eI eI eI eI))) v_rows_662, .st none Int (it eI) v_most_678, .un, .st none Int (it eI) v_least_694, .un, .un, .un, .un, .un, .un])) rfl nd (blkOk_by (N := n_law) (sc := defScope s_law) (own := [("row", 7)]) (by decide +kernel)) (li_list lm_sh.w (lx_var 5 cp_it rfl)) (fun p708 => ()) (fun p708 => (Sub.refl _)) (by intro t i s hm he; simp at hm; subst hm; (have e := Option.some.inj he; exact e.symm)) (fun _ _ _ _ _ t709 => (lg_name 7 nd)) (fun _ _ _ _ _ t709 x710 => (ltl_one (lt_cmp (lc_eqI (lx_mul (lx_part part4_2 (lx_var 7 cp_it rfl)) (fun p711 => (lx_part part4_3 (lx_var 7 cp_it rfl)))) (fun p712 => (lx_var 6 cp_it rfl))) (nomark _)))) (fun _ _ _ _ _ t709 x710 p713 => (lx_var 7 cp_it rfl)) (fun t709 x710 p713 p714 => ()) (fun t709 x710 p713 p714 => by exact (.keep (.keep (.keep (.keep (.keep (.keep (.keep (.drop (.keep (.keep (.keep (.keep (.keep (.keep (.keep Sub.nil)))))))))))))))) (fun t709 x710 p713 => ()) (fun t709 x710 p713 => by exact (.keep (.keep (.keep (.keep (.keep (.keep (.keep (.drop (.keep (.keep (.keep (.keep (.keep (.keep (.keep Sub.nil)))))))))))))))))) (fun p718 => ()) (fun p718 => (Sub.refl _)) (fun t719 => (lg_name 9 nd)) (fun x720 t719 kc721 kb722 => (lb_ifr (lt_cmp (lc_notN (lx_call (ok_offcut_fault fa) (hr.mono (by decide)) fa.g_offcut_fault fa.F_offcut_fault.kp fa.b_offcut_fault (fun _ => (.cons cp_it (.cons cp_it .nil))) (la_cons (lx_var 2 cp_it rfl) (fun p723 => (la_cons (lx_tup (la_cons (lx_var 6 cp_it rfl) (fun p724 => (la_cons (lx_some (E := (eT4 eI eI eI eI)) (lx_var 9 cp_it rfl)) (fun p725 => (la_cons (lx_sh (fz_ls fz_it) (lx_lc (envT := (fun t727 : Unit => [.st none (List Int) scr a_script, .st none TSt stT p695.2, .st none (List (List Int)) (it (eL (eL eI))) v_depths_651, .st none Str (it eS) v_kept_654, .st none (Int × (Option (Int × Int × Int × Int)) × (List Int)) (it (eT3 eI (eO (eT4 eI eI eI eI) nnT4) (eL eI))) v_told_658, .st none (List (Int × Int × Int × Int)) (it (eL (eT4 eI eI eI eI))) v_rows_662, .st none Int (it eI) v_most_678, .un, .st none Int (it eI) v_least_694, .st none (Int × Int × Int × Int) (it (eT4 eI eI eI eI)) x720, .un, .un, .un, .un, .un])) rfl nd (blkOk_by (N := n_law) (sc := defScope s_law) (own := [("row", 7)]) (by decide +kernel)) (li_list lm_sh.w (lx_var 2 cp_it rfl)) (fun p726 => ()) (fun p726 => (Sub.refl _)) (by intro t i s hm he; simp at hm; subst hm; (have e := Option.some.inj he; exact e.symm)) (fun _ _ _ _ _ t727 => (lg_name 7 nd)) (fun _ _ _ _ _ t727 x728 => ltl_nil) (fun _ _ _ _ _ t727 x728 p729 => (lx_var 6 cp_it rfl)) (fun t727 x728 p729 p730 => ()) (fun t727 x728 p729 p730 => by exact (.keep (.keep (.keep (.keep (.keep (.keep (.keep (.drop (.keep (.keep (.keep (.keep (.keep (.keep (.keep Sub.nil)))))))))))))))) (fun t727 x728 p729 => ()) (fun t727 x728 p729 => by exact (.keep (.keep (.keep (.keep (.keep (.keep (.keep (.drop (.keep (.keep (.keep (.keep (.keep (.keep (.keep Sub.nil)))))))))))))))))) (fun p734 => la_nil)))))) (eT3 eI (eO (eT4 eI eI eI eI) nnT4) (eL eI)) (fun a : Int × (Option (Int × Int × Int × Int)) × (List Int) × Unit => (a.1, a.2.1, a.2.2.1)) (fun a => [eI.enc a.1, (eO (eT4 eI eI eI eI) nnT4).enc a.2.1, (eL eI).enc a.2.2.1]) (fun _ => (.cons (.cons (.cons .nil)))) (fun _ => rfl)) (fun p735 => la_nil)))))) (nomark _)) (fun p737 => (lb_ret lx_bl (fun _ => ()) (fun p => (.drop (.drop (.drop (.drop (.drop (.drop (.drop (.keep (.drop (.drop (.keep (.keep (.keep (.keep (.keep Sub.nil)))))))))))))))))) (fun p737 => (lb_end () (.keep (.keep (.keep (.keep (.keep (.keep (.keep (.keep (.keep (.drop (.keep (.keep (.keep (.keep (.keep Sub.nil))))))))))))))))))) (fun t738 => (lb_for (envT := (fun t740 : TSt => [.st none (List Int) scr a_script, .st none TSt stT t740, .st none (List (List Int)) (it (eL (eL eI))) v_depths_651, .st none Str (it eS) v_kept_654, .st none (Int × (Option (Int × Int × Int × Int)) × (List Int)) (it (eT3 eI (eO (eT4 eI eI eI eI) nnT4) (eL eI))) v_told_658, .st none (List (Int × Int × Int × Int)) (it (eL (eT4 eI eI eI eI))) v_rows_662, .st none Int (it eI) v_most_678, .un, .st none Int (it eI) v_least_694, .un, .un, .un, .un, .un, .un])) PassesOwn.never rfl (li_range1 (by rfl) fa.z_range lx_int) (fun p739 => p695.2) (fun p739 => (Sub.refl _)) (fun t740 => (lg_name 10 nd)) (fun x741 t740 kc742 kb743 => (lb_par3S 11 9 12 nd rfl (la_cons (lx_part part3_0 (lx_var 4 cp_it rfl)) (fun p744 => (la_cons (lx_part part3_1 (lx_var 4 cp_it rfl)) (fun p745 => (la_cons (lx_listof lm_sh.w fa.z_list (lo_of (lx_part part3_2 (lx_var 4 cp_it rfl))) (fun _ => trivial)) (fun p746 => la_nil)))))) (fun _ => rfl) (fun x748 x749 x750 p747 => (lb_set 13 nd (lx_callI 1 (ok__law_take fa) (hr.mono (by decide)) fa.g__law_take fa.F__law_take.kp fa.b__law_take (fun _ => (.cons cp_it .nil)) rfl (la_cons lx_int (fun p751 => la_nil)) (fun _ => rfl)) (fun v_kind_753 p754 => (lb_set 14 nd (lx_callI 1 (ok__law_take fa) (hr.mono (by decide)) fa.g__law_take fa.F__law_take.kp fa.b__law_take (fun _ => (.cons cp_it .nil)) rfl (la_cons (lx_len lm_ow.w fa.z_len (lo_var 12 rfl) (fun _ => rfl)) (fun p755 => la_nil)) (fun _ => rfl)) (fun v_y_757 p758 => (lb_if (env1 := (fun j761 : (TSt × (Option (Int × Int × Int × Int)) × Int × (List Int)) => [.st none (List Int) scr a_script, .st none TSt stT j761.1, .st none (List (List Int)) (it (eL (eL eI))) v_depths_651, .st none Str (it eS) v_kept_654, .st none (Int × (Option (Int × Int × Int × Int)) × (List Int)) (it (eT3 eI (eO (eT4 eI eI eI eI) nnT4) (eL eI))) v_told_658, .st none (List (Int × Int × Int × Int)) (it (eL (eT4 eI eI eI eI))) v_rows_662, .st none Int (it eI) v_most_678, .un, .st none Int (it eI) v_least_694, .st none (Option (Int × Int × Int × Int)) (it (eO (eT4 eI eI eI eI) nnT4)) j761.2.1, .st none Int (it eI) x741, .st none Int (it eI) j761.2.2.1, .st none (List Int) (ls (it eI)) j761.2.2.2, .st none Int (it eI) v_kind_753, .st none Int (it eI) v_y_757])) (lt_cmp (lc_eqI (lx_var 13 cp_it rfl) (fun p759 => lx_int)) (nomark _)) (fun p760 => (lb_set 11 nd (lx_add (lx_var 11 cp_it rfl) (fun p763 => (lx_ix lm_ow.w (lo_of (lx_list (la_cons lx_int (fun p764 => (la_cons (lx_sub lx_int (fun p765 => lx_int)) (fun p766 => la_nil)))) eI (fun a : Int × Int × Unit => [a.1, a.2.1]) (fun _ => (.cons (.cons .nil))))) (fun p767 => (lx_callI 1 (ok__law_take fa) (hr.mono (by decide)) fa.g__law_take fa.F__law_take.kp fa.b__law_take (fun _ => (.cons cp_it .nil)) rfl (la_cons lx_int (fun p768 => la_nil)) (fun _ => rfl))) (fun _ _ => trivial)))) (fun v_area_771 p772 => (lb_end (p772.2.2.2, x749, v_area_771, x750) (Sub.refl _))))) (fun p760 => (lb_if (env1 := (fun j775 : (TSt × (Option (Int × Int × Int × Int)) × Int × (List Int)) => [.st none (List Int) scr a_script, .st none TSt stT j775.1, .st none (List (List Int)) (it (eL (eL eI))) v_depths_651, .st none Str (it eS) v_kept_654, .st none (Int × (Option (Int × Int × Int × Int)) × (List Int)) (it (eT3 eI (eO (eT4 eI eI eI eI) nnT4) (eL eI))) v_told_658, .st none (List (Int × Int × Int × Int)) (it (eL (eT4 eI eI eI eI))) v_rows_662, .st none Int (it eI) v_most_678, .un, .st none Int (it eI) v_least_694, .st none (Option (Int × Int × Int × Int)) (it (eO (eT4 eI eI eI eI) nnT4)) j775.2.1, .st none Int (it eI) x741, .st none Int (it eI) j775.2.2.1, .st none (List Int) (ls (it eI)) j775.2.2.2, .st none Int (it eI) v_kind_753, .st none Int (it eI) v_y_757])) (lt_cmp (lc_eqI (lx_var 13 cp_it rfl) (fun p773 => lx_int)) (nomark _)) (fun p774 => (lb_set 9 nd (lx_some (E := (eT4 eI eI eI eI)) (lx_ifJ (S := (it (eT4 eI eI eI eI))) (fun j787 : TSt => [.st none (List Int) scr a_script, .st none TSt stT j787, .st none (List (List Int)) (it (eL (eL eI))) v_depths_651, .st none Str (it eS) v_kept_654, .st none (Int × (Option (Int × Int × Int × Int)) × (List Int)) (it (eT3 eI (eO (eT4 eI eI eI eI) nnT4) (eL eI))) v_told_658, .st none (List (Int × Int × Int × Int)) (it (eL (eT4 eI eI eI eI))) v_rows_662, .st none Int (it eI) v_most_678, .un, .st none Int (it eI) v_least_694, .st none (Option (Int × Int × Int × Int)) (it (eO (eT4 eI eI eI eI) nnT4)) x749, .st none Int (it eI) x741, .st none Int (it eI) x748, .st none (List Int) (ls (it eI)) x750, .st none Int (it eI) v_kind_753, .st none Int (it eI) v_y_757]) (lt_cmp (lc_gt (lx_len lm_sh.w fa.z_len (lo_of (lx_var 5 cp_it rfl)) (fun _ => trivial)) (fun p777 => lx_int)) (nomark _)) (fun p778 => (lx_ix lm_sh.w (lo_of (lx_var 5 cp_it rfl)) (fun p779 => (lx_callI 1 (ok__law_take fa) (hr.mono (by decide)) fa.g__law_take fa.F__law_take.kp fa.b__law_take (fun _ => (.cons cp_it .nil)) rfl (la_cons (lx_len lm_sh.w fa.z_len (lo_of (lx_var 5 cp_it rfl)) (fun _ => trivial)) (fun p780 => la_nil)) (fun _ => rfl))) (fun _ _ => trivial))) (fun p778 => (lx_tup (la_cons lx_int (fun p783 => (la_cons lx_int (fun p784 => (la_cons lx_int (fun p785 => (la_cons lx_int (fun p786 => la_nil)))))))) (eT4 eI eI eI eI) (fun a : Int × Int × Int × Int × Unit => (a.1, a.2.1, a.2.2.1, a.2.2.2.1)) (fun a => [eI.enc a.1, eI.enc a.2.1, eI.enc a.2.2.1, eI.enc a.2.2.2.1]) (fun _ => (.cons (.cons (.cons (.cons .nil))))) (fun _ => rfl))) (fun p778 p788 => p788.2.2) (fun p778 p788 => p758.2) (fun p778 p788 => by exact (.keep (.keep (.keep (.keep (.keep (.keep (.keep (.keep (.keep (.keep (.keep (.keep (.keep (.keep (.keep Sub.nil)))))))))))))))) (fun p778 p788 => by exact (.keep (.keep (.keep (.keep (.keep (.keep (.keep (.keep (.keep (.keep (.keep (.keep (.keep (.keep (.keep Sub.nil)))))))))))))))))) (fun v_box_792 p793 => (lb_set 11 nd (lx_if (S := (it eI)) (lt_cmp (lc_eqI (lx_callI 1 (ok__law_take fa) (hr.mono (by decide)) fa.g__law_take fa.F__law_take.kp fa.b__law_take (fun _ => (.cons cp_it .nil)) rfl (la_cons lx_int (fun p794 => la_nil)) (fun _ => rfl)) (fun p796 => lx_int)) (nomark _)) (fun p797 => (lx_mul (lx_part part4_2 (lx_cast (E' := (eT4 eI eI eI eI)) (lx_var 9 cp_it rfl) id (fun a b h => by have h : a = some b := h; subst h; rfl))) (fun p799 => (lx_part part4_3 (lx_cast (E' := (eT4 eI eI eI eI)) (lx_var 9 cp_it rfl) id (fun a b h => by have h : a = some b := h; subst h; rfl)))))) (fun p797 => (lx_var 11 cp_it rfl)) (fun p797 _ => Sub.refl _) (fun p797 _ => Sub.refl _)) (fun v_area_801 p802 => (lb_end (p802.1.2, v_box_792, v_area_801, x750) (Sub.refl _))))))) (fun p774 => (lb_if (env1 := (fun j807 : (TSt × (Option (Int × Int × Int × Int)) × (List Int)) => [.st none (List Int) scr a_script, .st none TSt stT j807.1, .st none (List (List Int)) (it (eL (eL eI))) v_depths_651, .st none Str (it eS) v_kept_654, .st none (Int × (Option (Int × Int × Int × Int)) × (List Int)) (it (eT3 eI (eO (eT4 eI eI eI eI) nnT4) (eL eI))) v_told_658, .st none (List (Int × Int × Int × Int)) (it (eL (eT4 eI eI eI eI))) v_rows_662, .st none Int (it eI) v_most_678, .un, .st none Int (it eI) v_least_694, .st none (Option (Int × Int × Int × Int)) (it (eO (eT4 eI eI eI eI) nnT4)) j807.2.1, .st none Int (it eI) x741, .st none Int (it eI) x748, .st none (List Int) (ls (it eI)) j807.2.2, .st none Int (it eI) v_kind_753, .st none Int (it eI) v_y_757])) (lt_cmp (lc_eqI (lx_var 13 cp_it rfl) (fun p805 => lx_int)) (nomark _)) (fun p806 => (lb_set 9 nd (lx_if (S := (it (eO (eT4 eI eI eI eI) nnT4))) (lt_w (lw_orJ (fun j813 : TSt => [.st none (List Int) scr a_script, .st none TSt stT j813, .st none (List (List Int)) (it (eL (eL eI))) v_depths_651, .st none Str (it eS) v_kept_654, .st none (Int × (Option (Int × Int × Int × Int)) × (List Int)) (it (eT3 eI (eO (eT4 eI eI eI eI) nnT4) (eL eI))) v_told_658, .st none (List (Int × Int × Int × Int)) (it (eL (eT4 eI eI eI eI))) v_rows_662, .st none Int (it eI) v_most_678, .un, .st none Int (it eI) v_least_694, .st none (Option (Int × Int × Int × Int)) (it (eO (eT4 eI eI eI eI) nnT4)) x749, .st none Int (it eI) x741, .st none Int (it eI) x748, .st none (List Int) (ls (it eI)) x750, .st none Int (it eI) v_kind_753, .st none Int (it eI) v_y_757]) (lt_cmp (lc_isN (lx_var 9 cp_it rfl)) (nomark _)) (fun p809 => (lw_or1 (lt_cmp (lc_eqI (lx_callI 1 (ok__law_take fa) (hr.mono (by decide)) fa.g__law_take fa.F__law_take.kp fa.b__law_take (fun _ => (.cons cp_it .nil)) rfl (la_cons lx_int (fun p810 => la_nil)) (fun _ => rfl)) (fun p812 => lx_int)) (nomark _)))) (fun p809 => p758.2) (fun p809 p814 => p814.1.2) (fun p809 => by exact (.keep (.keep (.keep (.keep (.keep (.keep (.keep (.keep (.keep (.keep (.keep (.keep (.keep (.keep (.keep Sub.nil)))))))))))))))) (fun p809 p814 => by exact (.keep (.keep (.keep (.keep (.keep (.keep (.keep (.keep (.keep (.keep (.keep (.keep (.keep (.keep (.keep Sub.nil)))))))))))))))))) (fun p817 => (lx_as (E' := (eO (eT4 eI eI eI eI) nnT4)) lx_non (fun _ => none) (fun _ => rfl))) (fun p817 => (lx_some (E := (eT4 eI eI eI eI)) (lx_tup (la_cons (lx_add (lx_part part4_0 (lx_cast (E' := (eT4 eI eI eI eI)) (lx_var 9 cp_it rfl) id (fun a b h => by have h : a = some b := h; subst h; rfl))) (fun p820 => lx_int)) (fun p821 => (la_cons (lx_part part4_1 (lx_cast (E' := (eT4 eI eI eI eI)) (lx_var 9 cp_it rfl) id (fun a b h => by have h : a = some b := h; subst h; rfl))) (fun p823 => (la_cons (lx_part part4_2 (lx_cast (E' := (eT4 eI eI eI eI)) (lx_var 9 cp_it rfl) id (fun a b h => by have h : a = some b := h; subst h; rfl))) (fun p825 => (la_cons (lx_part part4_3 (lx_cast (E' := (eT4 eI eI eI eI)) (lx_var 9 cp_it rfl) id (fun a b h => by have h : a = some b := h; subst h; rfl))) (fun p827 => la_nil)))))))) (eT4 eI eI eI eI) (fun a : Int × Int × Int × Int × Unit => (a.1, a.2.1, a.2.2.1, a.2.2.2.1)) (fun a => [eI.enc a.1, eI.enc a.2.1, eI.enc a.2.2.1, eI.enc a.2.2.2.1]) (fun _ => (.cons (.cons (.cons (.cons .nil))))) (fun _ => rfl)))) (fun p817 _ => Sub.refl _) (fun p817 _ => Sub.refl _)) (fun v_box_828 p829 => (lb_end (p829, v_box_828, x750) (Sub.refl _))))) (fun p806 => (lb_if (env1 := (fun j834 : (TSt × (List Int)) => [.st none (List Int) scr a_script, .st none TSt stT j834.1, .st none (List (List Int)) (it (eL (eL eI))) v_depths_651, .st none Str (it eS) v_kept_654, .st none (Int × (Option (Int × Int × Int × Int)) × (List Int)) (it (eT3 eI (eO (eT4 eI eI eI eI) nnT4) (eL eI))) v_told_658, .st none (List (Int × Int × Int × Int)) (it (eL (eT4 eI eI eI eI))) v_rows_662, .st none Int (it eI) v_most_678, .un, .st none Int (it eI) v_least_694, .st none (Option (Int × Int × Int × Int)) (it (eO (eT4 eI eI eI eI) nnT4)) x749, .st none Int (it eI) x741, .st none Int (it eI) x748, .st none (List Int) (ls (it eI)) j834.2, .st none Int (it eI) v_kind_753, .st none Int (it eI) v_y_757])) (lt_cmp (lc_lt (lx_var 13 cp_it rfl) (fun p832 => lx_int)) (nomark _)) (fun p833 => (lb_setix 12 (lx_add (lx_ix lm_ow.w (lo_var 12 rfl) (fun p838 => (lx_var 14 cp_it rfl)) (fun _ _ => rfl)) (fun p840 => (lx_ix lm_ow.w (lo_of (lx_list (la_cons lx_int (fun p841 => (la_cons (lx_sub lx_int (fun p842 => lx_int)) (fun p843 => la_nil)))) eI (fun a : Int × Int × Unit => [a.1, a.2.1]) (fun _ => (.cons (.cons .nil))))) (fun p844 => (lx_callI 1 (ok__law_take fa) (hr.mono (by decide)) fa.g__law_take fa.F__law_take.kp fa.b__law_take (fun _ => (.cons cp_it .nil)) rfl (la_cons lx_int (fun p845 => la_nil)) (fun _ => rfl))) (fun _ _ => trivial)))) (fun _ => rfl) (fun y848 p849 => (lx_var 14 cp_it rfl)) (fun _ _ _ => rfl) (fun y848 p849 j850 p851 z852 => (lb_end (p849.2.2.2, z852) (Sub.refl _))))) (fun p833 => (lb_set 12 nd (lx_slL lm_sh.w (lx_frz 12 (fz_ls fz_it) rfl) (fun p854 => lx_int)) (fun v_bars_855 p856 => (lb_end (p758.2, v_bars_855) (Sub.refl _))))) (fun j834 => (lb_end (j834.1, x749, j834.2) (Sub.refl _))))) (fun j807 => (lb_end (j807.1, j807.2.1, x748, j807.2.2) (Sub.refl _))))) (fun j775 => (lb_end (j775.1, j775.2.1, j775.2.2.1, j775.2.2.2) (Sub.refl _))))) (fun j761 => (lb_ifr (lt_cmp (lc_neC hu dv_it dv_it (lo_of (lx_call (ok_offcut_fault fa) (hr.mono (by decide)) fa.g_offcut_fault fa.F_offcut_fault.kp fa.b_offcut_fault (fun _ => (.cons cp_it (.cons cp_it .nil))) (la_cons (lx_var 2 cp_it rfl) (fun p857 => (la_cons (lx_tup (la_cons (lx_var 11 cp_it rfl) (fun p858 => (la_cons (lx_var 9 cp_it rfl) (fun p859 => (la_cons (lx_frz 12 (fz_ls fz_it) rfl) (fun p860 => la_nil)))))) (eT3 eI (eO (eT4 eI eI eI eI) nnT4) (eL eI)) (fun a : Int × (Option (Int × Int × Int × Int)) × (List Int) × Unit => (a.1, a.2.1, a.2.2.1)) (fun a => [eI.enc a.1, (eO (eT4 eI eI eI eI) nnT4).enc a.2.1, (eL eI).enc a.2.2.1]) (fun _ => (.cons (.cons (.cons .nil)))) (fun _ => rfl)) (fun p861 => la_nil)))))) (fun p863 => (lo_of (lx_call (ok__law_fault fa) (hr.mono (by decide)) fa.g__law_fault fa.F__law_fault.kp fa.b__law_fault (fun _ => (.cons cp_it (.cons cp_it .nil))) (la_cons (lx_var 2 cp_it rfl) (fun p864 => (la_cons (lx_tup (la_cons (lx_var 11 cp_it rfl) (fun p865 => (la_cons (lx_var 9 cp_it rfl) (fun p866 => (la_cons (lx_var 12 cp_it rfl) (fun p867 => la_nil)))))) (eT3 eI (eO (eT4 eI eI eI eI) nnT4) (eL eI)) (fun a : Int × (Option (Int × Int × Int × Int)) × (List Int) × Unit => (a.1, a.2.1, a.2.2.1)) (fun a => [eI.enc a.1, (eO (eT4 eI eI eI eI) nnT4).enc a.2.1, (eL eI).enc a.2.2.1]) (fun _ => (.cons (.cons (.cons .nil)))) (fun _ => rfl)) (fun p868 => la_nil))))))) (fun _ _ => trivial) (fun _ _ => trivial)) (nomark _)) (fun p870 => (lb_ret lx_bl (fun _ => ()) (fun p => (.drop (.drop (.drop (.drop (.drop (.drop (.drop (.keep (.drop (.drop (.drop (.drop (.drop (.drop (.drop Sub.nil)))))))))))))))))) (fun p870 => (lb_end j761.1 (.keep (.keep (.keep (.keep (.keep (.keep (.keep (.keep (.keep (.drop (.drop (.drop (.drop (.drop (.drop Sub.nil))))))))))))))))))))))))))) (fun t871 => (lb_ret (lx_cmp (lc_eqS (lx_repr hgd hu dv_it fa.z_repr (lo_of (lx_var 2 cp_it rfl)) (fun _ => trivial)) (fun p873 => (lx_var 3 cp_it rfl))) (nomark _)) (fun _ => ()) (fun p => (.drop (.drop (.drop (.drop (.drop (.drop (.drop (.keep (.drop (.keep (.keep (.keep (.keep (.keep (.keep Sub.nil)))))))))))))))))))))))))))))))))))))))
    (by first | (unfold m_law; dsimp only [id]; done) | (unfold m_law; dsimp only [id]; rfl) | rfl)
end
/-! ### k70: tables -/
abbrev Cl := Int × Int
structure Rc {α : Type} (T : List (List α)) (w h : Nat) : Prop where
  lh : T.length = h
  lw : ∀ r ∈ T, r.length = w
def gt {α : Type} (d : α) (T : List (List α)) (c : Cl) : α := (T.getD c.2.toNat []).getD c.1.toNat d
def Ins (w h : Nat) (c : Cl) : Prop := 0 ≤ c.1 ∧ c.1 < w ∧ 0 ≤ c.2 ∧ c.2 < h
instance (w h : Nat) (c : Cl) : Decidable (Ins w h c) := inferInstanceAs (Decidable (_ ∧ _))
theorem Rc.row {α : Type} {T : List (List α)} {w h : Nat} (r : Rc T w h) {y : Int} (h0 : 0 ≤ y) (h1 : y < h) : atI T y = some (T.getD y.toNat []) ∧ (T.getD y.toNat []).length = w := by
  obtain ⟨n, rfl⟩ := Int.eq_ofNat_of_zero_le h0
  have hn : n < T.length := by have := r.lh; omega
  have e : T.getD (n : Int).toNat [] = T[n] := by
    rw [List.getD_eq_getElem?_getD, Int.toNat_natCast, List.getElem?_eq_getElem hn]; rfl
  rw [e]
  exact ⟨Z.atI_nat hn, r.lw _ (List.getElem_mem hn)⟩
theorem at_getD {α : Type} {xs : List α} {x : Int} (d : α) (h0 : 0 ≤ x) (h1 : x < xs.length) : atI xs x = some (xs.getD x.toNat d) := by
  obtain ⟨n, rfl⟩ := Int.eq_ofNat_of_zero_le h0
  have hn : n < xs.length := by omega
  rw [Z.atI_nat hn, List.getD_eq_getElem?_getD, Int.toNat_natCast, List.getElem?_eq_getElem hn]; rfl
theorem Rc.at {α : Type} {T : List (List α)} {w h : Nat} (r : Rc T w h) (d : α) {c : Cl} (i : Ins w h c) {Ω : Type} (K : α → Option Ω) : ((atI T c.2).bind fun y => (atI y c.1).bind fun z => K z) = K (gt d T c) := by
  obtain ⟨h0, h1, h2, h3⟩ := i
  obtain ⟨e, l⟩ := r.row h2 h3
  rw [e, Option.bind_some, at_getD d h0 (by omega), Option.bind_some]
  rfl
theorem Rc.map {α β : Type} {T : List (List α)} {w h : Nat} (r : Rc T w h) (f : α → β) : Rc (T.map (List.map f)) w h := ⟨by rw [List.length_map, r.lh], fun q m => by
  obtain ⟨a, ma, rfl⟩ := List.mem_map.1 m
  rw [List.length_map, r.lw a ma]⟩
theorem gt_map {α β : Type} (f : α → β) (d : α) (T : List (List α)) (c : Cl) : gt (f d) (T.map (List.map f)) c = f (gt d T c) := by
  unfold gt
  simp only [List.getD_eq_getElem?_getD, List.getElem?_map]
  cases T[c.2.toNat]? with
  | none => simp
  | some q =>
    simp only [Option.map_some, Option.getD_some, List.getElem?_map]
    cases q[c.1.toNat]? <;> rfl
theorem Rc.atx {α : Type} {T : List (List α)} {w h : Nat} (r : Rc T w h) (d : α) {c : Cl} (i : Ins w h c) {Ω : Type} (K : α → Option Ω) : ((ixN T.length c.2).bind fun n => (atI (T.getD n []) c.1).bind fun z => K z) = K (gt d T c) := by
  obtain ⟨h0, h1, h2, h3⟩ := i
  obtain ⟨x, y⟩ := c
  dsimp only at h0 h1 h2 h3 ⊢
  obtain ⟨n, rfl⟩ := Int.eq_ofNat_of_zero_le h2
  have hn : n < T.length := by have := r.lh; omega
  rw [ixN_nat hn, Option.bind_some]
  have e : T.getD n [] = T[n] := by rw [List.getD_eq_getElem?_getD, List.getElem?_eq_getElem hn]; rfl
  rw [e, at_getD d h0 (by rw [r.lw _ (List.getElem_mem hn)]; exact h1), Option.bind_some]
  unfold gt
  dsimp only
  rw [Int.toNat_natCast, e]
theorem rng_get {n i : Nat} (hi : i < n) : (rangeL 0 (n : Int))[i]? = some (i : Int) := by
  rw [rangeL_nat, List.getElem?_map, List.getElem?_range hi]; rfl
theorem copyL {α : Type} {Ω : Type} {T : List α} (hT : T.length ≤ 1000) (K : List α → Unit → Option Ω) : compO T () (fun x (t : Unit) kc => (kc (some x) ())) [] K = K T () := by
  have hS : (1000000 : Nat) ≤ SZ := by decide
  refine (compO_map id () _ [] (by simp; omega) fun _ _ _ => rfl).trans ?_
  rw [List.nil_append, List.map_id]
def setC {α : Type} (P : List (List α)) (c : Cl) (v : α) : List (List α) := P.set c.2.toNat ((P.getD c.2.toNat []).set c.1.toNat v)
theorem setC_run {α : Type} {P : List (List α)} {w h : Nat} (r : Rc P w h) {c : Cl} (i : Ins w h c) : ixN P.length c.2 = some c.2.toNat ∧ ixN (P.getD c.2.toNat []).length c.1 = some c.1.toNat := by
  obtain ⟨h0, h1, h2, h3⟩ := i
  obtain ⟨x, y⟩ := c
  dsimp only at h0 h1 h2 h3 ⊢
  obtain ⟨a, rfl⟩ := Int.eq_ofNat_of_zero_le h0
  obtain ⟨b, rfl⟩ := Int.eq_ofNat_of_zero_le h2
  have hb : b < P.length := by rw [r.lh]; omega
  have hl : (P.getD b []).length = w := by
    rw [List.getD_eq_getElem?_getD, List.getElem?_eq_getElem hb]
    exact r.lw _ (List.getElem_mem hb)
  simp only [Int.toNat_natCast]
  exact ⟨ixN_nat hb, ixN_nat (by omega)⟩
theorem setC_rc {α : Type} {P : List (List α)} {w h : Nat} (r : Rc P w h) {c : Cl} (i : Ins w h c) (v : α) : Rc (setC P c v) w h := by
  refine ⟨by unfold setC; rw [List.length_set]; exact r.lh, fun q m => ?_⟩
  unfold setC at m
  rcases List.mem_or_eq_of_mem_set m with m | rfl
  · exact r.lw q m
  · rw [List.length_set]
    obtain ⟨e, l⟩ := r.row i.2.2.1 i.2.2.2
    exact l
theorem setC_gt {α : Type} (d : α) {P : List (List α)} {w h : Nat} (r : Rc P w h) {c o : Cl} (i : Ins w h c) (j : Ins w h o) (v : α) : gt d (setC P c v) o = if o = c then v else gt d P o := by
  obtain ⟨h0, h1, h2, h3⟩ := i
  obtain ⟨k0, k1, k2, k3⟩ := j
  obtain ⟨x, y⟩ := c
  obtain ⟨u, z⟩ := o
  dsimp only at h0 h1 h2 h3 k0 k1 k2 k3 ⊢
  obtain ⟨a, rfl⟩ := Int.eq_ofNat_of_zero_le h0
  obtain ⟨b, rfl⟩ := Int.eq_ofNat_of_zero_le h2
  obtain ⟨a', rfl⟩ := Int.eq_ofNat_of_zero_le k0
  obtain ⟨b', rfl⟩ := Int.eq_ofNat_of_zero_le k2
  have hb : b < P.length := by rw [r.lh]; omega
  have hl : (P.getD b []).length = w := by
    rw [List.getD_eq_getElem?_getD, List.getElem?_eq_getElem hb]
    exact r.lw _ (List.getElem_mem hb)
  unfold gt setC
  simp only [Int.toNat_natCast, Prod.mk.injEq, Int.natCast_inj]
  by_cases q : b' = b
  · subst q
    rw [show (P.set b' ((P.getD b' []).set a v)).getD b' [] = (P.getD b' []).set a v by rw [List.getD_eq_getElem?_getD, List.getElem?_set_self hb]; rfl]
    by_cases p : a' = a
    · subst p
      rw [if_pos ⟨rfl, rfl⟩, List.getD_eq_getElem?_getD, List.getElem?_set_self (by omega)]; rfl
    · rw [if_neg (fun t => p t.1), List.getD_eq_getElem?_getD, List.getElem?_set_ne (fun t => p t.symm), ← List.getD_eq_getElem?_getD]
  · rw [if_neg (fun t => q t.2), show (P.set b ((P.getD b []).set a v)).getD b' [] = P.getD b' [] by rw [List.getD_eq_getElem?_getD, List.getElem?_set_ne (fun t => q t.symm), List.getD_eq_getElem?_getD]]
theorem bind_eq_of {α β : Type} {o : Option α} {b : α} {g : α → Option β} {r : Option β} (h : o = some b) (hg : g b = r) : o.bind g = r := by rw [h]; exact hg
theorem or_some {a b : Prop} [Decidable a] [Decidable b] : (if (decide a) = true then some true else some (decide b)) = some (decide (a ∨ b)) := by
  by_cases h : a <;> simp [h]
/-! ### walks that gather; slices -/
theorem forO_flat {α β Ω : Type} (g : α → List β) (c N : Nat) {b : α → List β → (List β → Option Ω) → Option Ω} {k : List β → Option Ω} : ∀ (xs : List α) (acc : List β), acc.length + xs.length * c ≤ N → (∀ x ∈ xs, (g x).length ≤ c) → (∀ x ∈ xs, ∀ t kc, t.length + c ≤ N → b x t kc = kc (t ++ g x)) → forO xs acc b k = k (acc ++ xs.flatMap g)
  | [], acc, _, _, _ => by simp [forO]
  | x :: xs, acc, hl, hg, h => by
    rw [List.length_cons, Nat.succ_mul] at hl
    have hx := hg x (List.mem_cons_self ..)
    show b x acc (fun s' => forO xs s' b k) = _
    rw [h x (List.mem_cons_self ..) _ _ (by omega), forO_flat g c N xs (acc ++ g x) (by rw [List.length_append]; omega) (fun y m => hg y (List.mem_cons_of_mem _ m)) fun y m => h y (List.mem_cons_of_mem _ m)]
    rw [List.flatMap_cons, List.append_assoc]
theorem flat_len {α β : Type} (g : α → List β) (c : Nat) : ∀ xs : List α, (∀ x ∈ xs, (g x).length ≤ c) → (xs.flatMap g).length ≤ xs.length * c
  | [], _ => by simp
  | x :: xs, h => by
    rw [List.flatMap_cons, List.length_append, List.length_cons, Nat.succ_mul]
    have := h x (List.mem_cons_self ..)
    have := flat_len g c xs fun y m => h y (List.mem_cons_of_mem _ m)
    omega
theorem cut_rng {row : List Int} {x a : Nat} (h : x + a ≤ row.length) : cutL row (some (x : Int)) (some ((x : Int) + (a : Int))) = (rangeL (x : Int) ((x : Int) + (a : Int))).map fun p => row.getD p.toNat 0 := by
  rw [show (x : Int) + (a : Int) = ((x + a : Nat) : Int) by omega, cutL_nat h, show x + a - x = a by omega]
  refine List.ext_getElem? fun i => ?_
  unfold rangeL
  rw [List.map_map, List.getElem?_map, List.getElem?_take, show (((x + a : Nat) : Int) - (x : Int)).toNat = a by omega]
  by_cases hi : i < a
  · rw [if_pos hi, List.getElem?_drop, List.getElem?_range hi, List.getElem?_eq_getElem (show x + i < row.length by omega)]
    simp only [Option.map_some, Function.comp]
    rw [show ((x : Int) + (i : Int)).toNat = x + i by omega, List.getD_eq_getElem?_getD, List.getElem?_eq_getElem (show x + i < row.length by omega)]; rfl
  · rw [if_neg hi, List.getElem?_eq_none (by rw [List.length_range]; omega)]; rfl
/-! ### rectangles that are clear -/
abbrev R4 := Int × Int × Int × Int
def ar (r : R4) : Int := r.2.2.1 * r.2.2.2
structure Clr (D : List (List Int)) (w h : Nat) (r : R4) : Prop where
  x0 : 0 ≤ r.1
  y0 : 0 ≤ r.2.1
  a1 : 1 ≤ r.2.2.1
  b1 : 1 ≤ r.2.2.2
  xa : r.1 + r.2.2.1 ≤ w
  yb : r.2.1 + r.2.2.2 ≤ h
  z : ∀ p q, r.1 ≤ p → p < r.1 + r.2.2.1 → r.2.1 ≤ q → q < r.2.1 + r.2.2.2 → gt 0 D (p, q) = 0
structure POk (D : List (List Int)) (w h : Nat) : Prop where
  rc : Rc D w h
  w1 : 1 ≤ w
  w8 : w ≤ 8
  h1 : 1 ≤ h
  h8 : h ≤ 8
  nn : ∀ r ∈ D, ∀ v ∈ r, 0 ≤ v ∧ v ≤ 9
theorem gt_bd {D : List (List Int)} {w h : Nat} (d : POk D w h) {c : Cl} (i : Ins w h c) : 0 ≤ gt 0 D c := by
  obtain ⟨h0, h1, h2, h3⟩ := i
  obtain ⟨x, y⟩ := c
  dsimp only at h0 h1 h2 h3
  obtain ⟨a, rfl⟩ := Int.eq_ofNat_of_zero_le h0
  obtain ⟨b, rfl⟩ := Int.eq_ofNat_of_zero_le h2
  have hb : b < D.length := by rw [d.rc.lh]; omega
  have lr := d.rc.lw _ (List.getElem_mem hb)
  unfold gt
  simp only [Int.toNat_natCast, List.getD_eq_getElem?_getD, List.getElem?_eq_getElem hb, Option.getD_some]
  rw [List.getElem?_eq_getElem (by omega)]
  exact (d.nn _ (List.getElem_mem hb) _ (List.getElem_mem (by omega))).1
theorem ar_bd {D : List (List Int)} {w h : Nat} (hw : w ≤ 8) (hh : h ≤ 8) {r : R4} (c : Clr D w h r) : 1 ≤ ar r ∧ ar r ≤ 64 := by
  obtain ⟨x0, y0, a1, b1, xa, yb, _⟩ := c
  have q1 : r.2.2.1 ≤ 8 := by omega
  have q2 : r.2.2.2 ≤ 8 := by omega
  have := Int.mul_le_mul q1 q2 (by omega) (by omega)
  have := Int.mul_le_mul a1 b1 (by omega) (by omega)
  unfold ar
  omega
section
variable {D : List (List Int)} {w h : Nat}
def cells4 (D : List (List Int)) (x y a b : Int) : List Int := (rangeL y (y + b)).flatMap fun q => (rangeL x (x + a)).map fun p => gt 0 D (p, q)
def one4 (D : List (List Int)) (x y a b : Int) : List R4 := if (cells4 D x y a b).all (fun v => decide (v = 0)) = true then [(x, y, a, b)] else []
def allR (D : List (List Int)) (w h : Nat) : List R4 := (rangeL 0 (h : Int)).flatMap fun y => (rangeL 0 (w : Int)).flatMap fun x => (rangeL 1 ((h : Int) - y + 1)).flatMap fun b => (rangeL 1 ((w : Int) - x + 1)).flatMap fun a => one4 D x y a b
theorem mem_cells4 {x y a b v : Int} : v ∈ cells4 D x y a b ↔ ∃ p q, (x ≤ p ∧ p < x + a) ∧ (y ≤ q ∧ q < y + b) ∧ gt 0 D (p, q) = v := by
  unfold cells4
  simp only [List.mem_flatMap, List.mem_map, mem_rng]
  constructor
  · rintro ⟨q, hq, p, hp, e⟩; exact ⟨p, q, hp, hq, e⟩
  · rintro ⟨p, q, hp, hq, e⟩; exact ⟨q, hq, p, hp, e⟩
theorem mem_allR {r : R4} : r ∈ allR D w h ↔ Clr D w h r := by
  unfold allR one4
  simp only [List.mem_flatMap, mem_rng]
  constructor
  · rintro ⟨y, hy, x, hx, b, hb, a, ha, m⟩
    split at m
    · rename_i c
      simp at m; subst m
      rw [List.all_eq_true] at c
      exact ⟨hx.1, hy.1, ha.1, hb.1, by dsimp only; omega, by dsimp only; omega, fun p q h1 h2 h3 h4 => of_decide_eq_true (c _ (mem_cells4.2 ⟨p, q, ⟨h1, h2⟩, ⟨h3, h4⟩, rfl⟩))⟩
    · cases m
  · rintro ⟨x0, y0, a1, b1, xa, yb, z⟩
    obtain ⟨x, y, a, b⟩ := r
    dsimp only at x0 y0 a1 b1 xa yb z
    refine ⟨y, ⟨y0, by omega⟩, x, ⟨x0, by omega⟩, b, ⟨b1, by omega⟩, a, ⟨a1, by omega⟩, ?_⟩
    rw [if_pos]
    · simp
    · rw [List.all_eq_true]
      intro v mv
      obtain ⟨p, q, hp, hq, rfl⟩ := mem_cells4.1 mv
      exact decide_eq_true (z p q hp.1 hp.2 hq.1 hq.2)
theorem all_ok (d : POk D w h) : m__law_all D = some (allR D w h) := by
  have hS : (1000000 : Nat) ≤ SZ := by decide
  have rD := d.rc
  have w1 := d.w1
  have w8 := d.w8
  have h1 := d.h1
  have h8 := d.h8
  have hT : 0 < D.length := by have := rD.lh; omega
  have l0 : (D.getD 0 []).length = w := by
    rw [List.getD_eq_getElem?_getD, List.getElem?_eq_getElem hT]
    exact rD.lw _ (List.getElem_mem hT)
  have ix0 : ixN D.length (0 : Int) = some 0 := ixN_nat (i := 0) hT
  have rl : ∀ lo hi : Int, 0 ≤ lo → hi ≤ 9 → (rangeL lo hi).length ≤ 9 := fun lo hi a b => by rw [rng_len]; omega
  have o1 : ∀ x y a b, (one4 D x y a b).length ≤ 1 := fun x y a b => by unfold one4; split <;> simp
  unfold m__law_all
  dsimp only
  rw [rD.lh] at ix0 ⊢
  rw [ck_pos (rgOk_s (by omega) (by omega) (by omega) (by omega))]
  refine (forO_flat (fun y => (rangeL 0 (w : Int)).flatMap fun x => (rangeL 1 ((h : Int) - y + 1)).flatMap fun b => (rangeL 1 ((w : Int) - x + 1)).flatMap fun a => one4 D x y a b) 729 100000 _ [] (by have := rl 0 h (by decide) (by omega); simp; omega) (fun y my => ?_) fun y my t kc ht => ?_).trans (by rw [List.nil_append]; rfl)
  · have my := mem_rng.1 my
    have e1 := flat_len (fun x => (rangeL 1 ((h : Int) - y + 1)).flatMap fun b => (rangeL 1 ((w : Int) - x + 1)).flatMap fun a => one4 D x y a b) 81 (rangeL 0 (w : Int)) fun x mx => by
      have mx := mem_rng.1 mx
      have e2 := flat_len (fun b => (rangeL 1 ((w : Int) - x + 1)).flatMap fun a => one4 D x y a b) 9 (rangeL 1 ((h : Int) - y + 1)) fun b mb => by
        have e3 := flat_len (fun a => one4 D x y a b) 1 (rangeL 1 ((w : Int) - x + 1)) fun a _ => o1 x y a b
        have := rl 1 ((w : Int) - x + 1) (by decide) (by omega)
        omega
      have := rl 1 ((h : Int) - y + 1) (by decide) (by omega)
      omega
    have := rl 0 w (by decide) (by omega)
    omega
  have my := mem_rng.1 my
  rw [ix0, Option.bind_some, l0, ck_pos (rgOk_s (by omega) (by omega) (by omega) (by omega))]
  refine (forO_flat (fun x => (rangeL 1 ((h : Int) - y + 1)).flatMap fun b => (rangeL 1 ((w : Int) - x + 1)).flatMap fun a => one4 D x y a b) 81 100000 _ t (by have := rl 0 w (by decide) (by omega); omega) (fun x mx => ?_) fun x mx t kc ht => ?_)
  · have mx := mem_rng.1 mx
    have e2 := flat_len (fun b => (rangeL 1 ((w : Int) - x + 1)).flatMap fun a => one4 D x y a b) 9 (rangeL 1 ((h : Int) - y + 1)) fun b mb => by
      have e3 := flat_len (fun a => one4 D x y a b) 1 (rangeL 1 ((w : Int) - x + 1)) fun a _ => o1 x y a b
      have := rl 1 ((w : Int) - x + 1) (by decide) (by omega)
      omega
    have := rl 1 ((h : Int) - y + 1) (by decide) (by omega)
    omega
  have mx := mem_rng.1 mx
  rw [ck_pos (rgOk_s (by omega) (by omega) (by omega) (by omega))]
  refine (forO_flat (fun b => (rangeL 1 ((w : Int) - x + 1)).flatMap fun a => one4 D x y a b) 9 100000 _ t (by have := rl 1 ((h : Int) - y + 1) (by decide) (by omega); omega) (fun b mb => ?_) fun b mb t kc ht => ?_)
  · have e3 := flat_len (fun a => one4 D x y a b) 1 (rangeL 1 ((w : Int) - x + 1)) fun a _ => o1 x y a b
    have := rl 1 ((w : Int) - x + 1) (by decide) (by omega)
    omega
  have mb := mem_rng.1 mb
  rw [Option.bind_some, l0, ck_pos (rgOk_s (by omega) (by omega) (by omega) (by omega))]
  refine (forO_flat (fun a => one4 D x y a b) 1 100000 _ t (by have := rl 1 ((w : Int) - x + 1) (by decide) (by omega); omega) (fun a ma => o1 x y a b) fun a ma t kc ht => ?_)
  have ma := mem_rng.1 ma
  rw [ck_pos (rgOk_s (by omega) (by omega) (by omega) (by omega))]
  refine (forO_flat (fun q => (rangeL x (x + a)).map fun p => gt 0 D (p, q)) 9 100000 _ [] (by have := rl y (y + b) (by omega) (by omega); simp; omega) (fun q mq => by rw [List.length_map]; exact rl _ _ (by omega) (by omega)) fun q mq s kc2 hs => ?_).trans ?_
  · have mq := mem_rng.1 mq
    obtain ⟨qn, rfl⟩ := Int.eq_ofNat_of_zero_le (show 0 ≤ q by omega)
    obtain ⟨xn, rfl⟩ := Int.eq_ofNat_of_zero_le mx.1
    obtain ⟨an, rfl⟩ := Int.eq_ofNat_of_zero_le (show 0 ≤ a by omega)
    have hq : qn < D.length := by have := rD.lh; omega
    rw [show ixN h (qn : Int) = some qn from ixN_nat (by omega), Option.bind_some]
    have lq : (D.getD qn []).length = w := by
      rw [List.getD_eq_getElem?_getD, List.getElem?_eq_getElem hq]
      exact rD.lw _ (List.getElem_mem hq)
    rw [cut_rng (by omega)]
    have e : ((rangeL (xn : Int) ((xn : Int) + (an : Int))).map fun p => (D.getD qn []).getD p.toNat 0) = (rangeL (xn : Int) ((xn : Int) + (an : Int))).map fun p => gt 0 D (p, (qn : Int)) := rfl
    rw [e, ck_pos (decide_eq_true (by
      have := rl (xn : Int) ((xn : Int) + (an : Int)) (by omega) (by omega)
      rw [List.length_map]; omega))]
  · rw [List.nil_append]
    show (maxI (cells4 D x y a b)).bind _ = _
    have hne : cells4 D x y a b ≠ [] := fun e => by
      have : gt 0 D (x, y) ∈ cells4 D x y a b := mem_cells4.2 ⟨x, y, ⟨by omega, by omega⟩, ⟨by omega, by omega⟩, rfl⟩
      rw [e] at this; cases this
    obtain ⟨v, ev, mv, hv⟩ := maxI_some hne
    rw [ev, Option.bind_some, ite_d]
    unfold one4
    have all0 : ((cells4 D x y a b).all fun v => decide (v = 0)) = decide (v = 0) := by
      rw [Bool.eq_iff_iff, List.all_eq_true, decide_eq_true_eq]
      constructor
      · intro z; exact of_decide_eq_true (z v mv)
      · intro z u mu
        obtain ⟨p, q, hp, hq, rfl⟩ := mem_cells4.1 mu
        have := hv _ mu
        have := gt_bd d (c := (p, q)) ⟨by dsimp only; omega, by dsimp only; omega, by dsimp only; omega, by dsimp only; omega⟩
        exact decide_eq_true (by omega)
    rw [all0, ite_d]
    by_cases c : v = 0
    · rw [if_pos c, if_pos c, ck_pos (decide_eq_true (by omega))]
    · rw [if_neg c, if_neg c, List.append_nil]
theorem all_len (d : POk D w h) : (allR D w h).length ≤ 6561 := by
  have w1 := d.w1
  have w8 := d.w8
  have h1 := d.h1
  have h8 := d.h8
  have rl : ∀ lo hi : Int, 0 ≤ lo → hi ≤ 9 → (rangeL lo hi).length ≤ 9 := fun lo hi a b => by rw [rng_len]; omega
  have o1 : ∀ x y a b, (one4 D x y a b).length ≤ 1 := fun x y a b => by unfold one4; split <;> simp
  have e0 := flat_len (fun y => (rangeL 0 (w : Int)).flatMap fun x => (rangeL 1 ((h : Int) - y + 1)).flatMap fun b => (rangeL 1 ((w : Int) - x + 1)).flatMap fun a => one4 D x y a b) 729 (rangeL 0 (h : Int)) fun y my => by
    have my := mem_rng.1 my
    have e1 := flat_len (fun x => (rangeL 1 ((h : Int) - y + 1)).flatMap fun b => (rangeL 1 ((w : Int) - x + 1)).flatMap fun a => one4 D x y a b) 81 (rangeL 0 (w : Int)) fun x mx => by
      have mx := mem_rng.1 mx
      have e2 := flat_len (fun b => (rangeL 1 ((w : Int) - x + 1)).flatMap fun a => one4 D x y a b) 9 (rangeL 1 ((h : Int) - y + 1)) fun b mb => by
        have e3 := flat_len (fun a => one4 D x y a b) 1 (rangeL 1 ((w : Int) - x + 1)) fun a _ => o1 x y a b
        have := rl 1 ((w : Int) - x + 1) (by decide) (by omega)
        omega
      have := rl 1 ((h : Int) - y + 1) (by decide) (by omega)
      omega
    have := rl 0 w (by decide) (by omega)
    omega
  have := rl 0 h (by decide) (by omega)
  unfold allR
  omega
end
/-! ### heights over a row -/
def fa (D : List (List Int)) (x : Int) : Nat → Int
  | 0 => if gt 0 D (x, (0 : Int)) = 0 then 1 else 0
  | y + 1 => if gt 0 D (x, ((y + 1 : Nat) : Int)) = 0 then fa D x y + 1 else 0
theorem fa_bd (D : List (List Int)) (x : Int) : ∀ y : Nat, 0 ≤ fa D x y ∧ fa D x y ≤ y + 1
  | 0 => by unfold fa; split <;> omega
  | y + 1 => by
    have := fa_bd D x y
    unfold fa
    split <;> omega
theorem fa_iff (D : List (List Int)) (x : Int) : ∀ (y : Nat) (b : Int), 1 ≤ b → (b ≤ fa D x y ↔ b ≤ y + 1 ∧ ∀ q : Int, y - b < q → q ≤ y → gt 0 D (x, q) = 0)
  | 0, b, hb => by
    unfold fa
    constructor
    · intro h
      split at h
      · rename_i z
        exact ⟨by omega, fun q h1 h2 => by rw [show q = 0 by omega]; exact z⟩
      · omega
    · rintro ⟨h1, h2⟩
      rw [if_pos (h2 0 (by omega) (by omega))]; omega
  | y + 1, b, hb => by
    have ih := fa_iff D x y
    have bd := fa_bd D x y
    unfold fa
    constructor
    · intro h
      split at h
      · rename_i z
        refine ⟨by omega, fun q h1 h2 => ?_⟩
        by_cases e : q = ((y + 1 : Nat) : Int)
        · rw [e]; exact z
        · by_cases b1 : b = 1
          · omega
          · exact ((ih (b - 1) (by omega)).1 (by omega)).2 q (by omega) (by omega)
      · omega
    · rintro ⟨h1, h2⟩
      rw [if_pos (h2 _ (by omega) (by omega))]
      by_cases b1 : b = 1
      · omega
      · have := (ih (b - 1) (by omega)).2 ⟨by omega, fun q q1 q2 => h2 q (by omega) (by omega)⟩
        omega
def faL (D : List (List Int)) (w : Nat) (y : Nat) : List Int := (rangeL 0 (w : Int)).map fun x => fa D x y
def faT (D : List (List Int)) (w h : Nat) : List (List Int) := (rangeL 0 (h : Int)).map fun y => faL D w y.toNat
section
variable {D : List (List Int)} {w h : Nat}
theorem faL_len {y : Nat} : (faL D w y).length = w := by unfold faL; rw [List.length_map, rng_len]; omega
theorem faL_at {y : Nat} {x : Int} (h0 : 0 ≤ x) (h1 : x < w) : atI (faL D w y) x = some (fa D x y) := by
  unfold faL
  rw [atI_map]
  obtain ⟨n, rfl⟩ := Int.eq_ofNat_of_zero_le h0
  have : atI (rangeL 0 (w : Int)) (n : Int) = some (n : Int) := by
    rw [Z.atI_nat (by rw [rng_len]; omega)]
    have e := rng_get (show n < w by omega)
    rw [List.getElem?_eq_getElem (by rw [rng_len]; omega)] at e
    exact e
  rw [this]; rfl
theorem rng_at {n i : Nat} (hi : i < n) : atI (rangeL 0 (n : Int)) (i : Int) = some (i : Int) := by
  rw [Z.atI_nat (by rw [rng_len]; omega)]
  have e := rng_get hi
  rw [List.getElem?_eq_getElem (by rw [rng_len]; omega)] at e
  exact e
theorem free_ok (d : POk D w h) : m_free_above D = some (faT D w h) := by
  have hS : (1000000 : Nat) ≤ SZ := by decide
  have rD := d.rc
  have w1 := d.w1
  have w8 := d.w8
  have h1 := d.h1
  have h8 := d.h8
  unfold m_free_above
  dsimp only
  rw [enumL_rng ([] : List Int), forO_mapL, rD.lh]
  have step : ∀ (i : Nat) (s : List (List Int)) (y : Int), (rangeL 0 (h : Int))[i]? = some y → s = ((rangeL 0 (h : Int)).take (0 + i)).map (fun y => faL D w y.toNat) → ∃ s' : List (List Int), s' = ((rangeL 0 (h : Int)).take (0 + i + 1)).map (fun y => faL D w y.toNat) ∧ ∀ kc : List (List Int) → Option (List (List Int)),
      forO (enumL (D.getD y.toNat [])) ([] : List Int) (fun x12 (t11 : (List Int)) kc13 => (
        if (decide ((0 : Int) < y)) = true then ((ixN (List.length s) (y - (1 : Int))).bind fun n21 =>
        (atI (List.getD s n21 []) x12.1).bind fun y22 =>
        if (decide (x12.2 = (0 : Int))) = true then (ck (decide (List.length t11 < SZ)) (kc13 (t11 ++ [y22 + (1 : Int)]))) else (ck (decide (List.length t11 < SZ)) (kc13 (t11 ++ [(0 : Int)])))) else (if (decide (x12.2 = (0 : Int))) = true then (ck (decide (List.length t11 < SZ)) (kc13 (t11 ++ [(0 : Int) + (1 : Int)]))) else (ck (decide (List.length t11 < SZ)) (kc13 (t11 ++ [(0 : Int)]))))))
        (fun t35 : (List Int) => (
        ck (decide (List.length s < SZ)) (kc (s ++ [t35])))) = kc s' := by
    intro i s y hy e
    have hi := lt_of_get hy
    rw [rng_len] at hi
    rw [rng_get (show i < h by omega)] at hy
    cases hy
    have sn : (rangeL 0 (h : Int)).take (i + 1) = (rangeL 0 (h : Int)).take i ++ [(i : Int)] := by rw [List.take_add_one, rng_get (show i < h by omega)]; rfl
    rw [Nat.zero_add] at e ⊢
    have ls : s.length = i := by rw [e, List.length_map, List.length_take, rng_len]; omega
    refine ⟨s ++ [faL D w i], by rw [sn, List.map_append, ← e]; rfl, fun kc => ?_⟩
    rw [Int.toNat_natCast]
    have li : (D.getD i []).length = w := by
      have hq : i < D.length := by have := rD.lh; omega
      rw [List.getD_eq_getElem?_getD, List.getElem?_eq_getElem hq]
      exact rD.lw _ (List.getElem_mem hq)
    rw [enumL_rng (0 : Int), forO_mapL, li]
    refine (forO_filt (fun x : Int => some (fa D x i)) _ [] (by rw [rng_len]; simp; omega) fun x mx t kc2 ht => ?_).trans ?_
    · have mx := mem_rng.1 mx
      have eg : (D.getD i []).getD x.toNat 0 = gt 0 D (x, (i : Int)) := rfl
      dsimp only
      rw [eg, ite_d]
      cases i with
      | zero =>
        rw [if_neg (by decide), ite_d, ck_pos (decide_eq_true ht), ck_pos (decide_eq_true ht)]
        show _ = kc2 (t ++ [if gt 0 D (x, ((0 : Nat) : Int)) = 0 then 1 else 0])
        by_cases z : gt 0 D (x, ((0 : Nat) : Int)) = 0
        · rw [if_pos z, if_pos z]; rfl
        · rw [if_neg z, if_neg z]
      | succ i =>
        rw [if_pos (by omega), show ((i + 1 : Nat) : Int) - 1 = (i : Int) by omega, ixN_nat (by omega), Option.bind_some]
        have eL : s.getD i [] = faL D w i := by
          rw [e, List.getD_eq_getElem?_getD, List.getElem?_map, List.getElem?_take, if_pos (by omega), rng_get (show i < h by omega)]; rfl
        rw [eL, faL_at mx.1 mx.2, Option.bind_some, ite_d, ck_pos (decide_eq_true ht), ck_pos (decide_eq_true ht)]
        show _ = kc2 (t ++ [if gt 0 D (x, ((i + 1 : Nat) : Int)) = 0 then fa D x i + 1 else 0])
        by_cases z : gt 0 D (x, ((i + 1 : Nat) : Int)) = 0
        · rw [if_pos z, if_pos z]
        · rw [if_neg z, if_neg z]
    · rw [List.nil_append, ck_pos (decide_eq_true (by omega)), show (fun x : Int => some (fa D x i)) = (some ∘ fun x : Int => fa D x i) from rfl, List.filterMap_eq_map]
      rfl
  obtain ⟨s', e', ek⟩ := forO_run (Ω := List (List Int)) (fun n (s : List (List Int)) => s = ((rangeL 0 (h : Int)).take n).map (fun y => faL D w y.toNat)) (rangeL 0 (h : Int)) 0 [] rfl step
  rw [Nat.zero_add, List.take_length] at e'
  refine (ek _).trans ?_
  rw [e']; rfl
/-! ### the best of a row -/
theorem lt4_iff {x y : R4} : lt4 x y = true ↔ x.1 < y.1 ∨ (x.1 = y.1 ∧ (x.2.1 < y.2.1 ∨ (x.2.1 = y.2.1 ∧ (x.2.2.1 < y.2.2.1 ∨ (x.2.2.1 = y.2.2.1 ∧ x.2.2.2 < y.2.2.2))))) := by
  unfold lt4
  split
  · split
    · split
      · rw [decide_eq_true_eq]; omega
      · rw [decide_eq_true_eq]; omega
    · rw [decide_eq_true_eq]; omega
  · rw [decide_eq_true_eq]; omega
theorem lt5_iff {x y : Int × R4} : lt5 x y = true ↔ x.1 < y.1 ∨ (x.1 = y.1 ∧ lt4 x.2 y.2 = true) := by
  unfold lt5
  split
  · rename_i e
    exact ⟨fun h => .inr ⟨e, h⟩, fun h => h.elim (fun z => by omega) (·.2)⟩
  · rename_i e
    rw [decide_eq_true_eq]
    exact ⟨.inl, fun h => h.elim id fun z => absurd z.1 e⟩
def rec4 (y f l b : Int) : R4 := (f, y - b + 1, l - f + 1, b)
/-- what stands after some stretches f .. l -/
structure BI (D : List (List Int)) (w h : Nat) (y : Nat) (Pr : Int → Int → Prop) (best : Int × R4) : Prop where
  good : best = (0, 0, 0, 0, 0) ∨ (0 < best.1 ∧ Clr D w h best.2 ∧ best.2.2.1 + best.2.2.2.2 = y + 1 ∧ ar best.2 = best.1)
  top : ∀ f l, Pr f l → 0 ≤ f → f ≤ l → l < w → ∀ b, 1 ≤ b → (∀ i, f ≤ i → i ≤ l → b ≤ fa D i y) → b * (l - f + 1) < best.1 ∨ (b * (l - f + 1) = best.1 ∧ ¬ lt4 (rec4 y f l b) best.2 = true)
def stepB (row best : Int × R4) : Int × R4 := if best.1 < row.1 ∨ (row.1 = best.1 ∧ 0 < row.1 ∧ lt5 row best = true) then row else best
theorem BI.step {y : Nat} (hy : y < h) {Pr : Int → Int → Prop} {best : Int × R4} (B : BI D w h y Pr best) {f l m : Int} (f0 : 0 ≤ f) (fl : f ≤ l) (lw : l < w) (hm : ∀ b, b ≤ m ↔ ∀ i, f ≤ i → i ≤ l → b ≤ fa D i y) :
    BI D w h y (fun f' l' => Pr f' l' ∨ (f' = f ∧ l' = l)) (stepB (m * (l - f + 1), rec4 y f l m) best) := by
  have m0 : 0 ≤ m := (hm 0).2 fun i _ _ => (fa_bd D i y).1
  have k1 : 1 ≤ l - f + 1 := by omega
  have rowC : 0 < m → Clr D w h (rec4 y f l m) ∧ (rec4 y f l m).2.1 + (rec4 y f l m).2.2.2 = y + 1 := fun hp => by
    have hm1 := (hm m).1 (Int.le_refl _)
    have bd := (fa_bd D f y).2
    have b1 := hm1 f (Int.le_refl _) fl
    refine ⟨⟨f0, by unfold rec4; dsimp only; omega, by unfold rec4; dsimp only; omega, by unfold rec4; dsimp only; omega, by unfold rec4; dsimp only; omega, by unfold rec4; dsimp only; omega, fun p q p1 p2 q1 q2 => ?_⟩, by unfold rec4; dsimp only; omega⟩
    unfold rec4 at p1 p2 q1 q2
    dsimp only at p1 p2 q1 q2
    exact ((fa_iff D p y m (by omega)).1 (hm1 p p1 (by omega))).2 q (by omega) (by omega)
  have pos : 0 < m * (l - f + 1) → 0 < m := fun z => by
    by_cases c : m = 0
    · subst c; simp at z
    · omega
  have pos' : 0 < m → 0 < m * (l - f + 1) := fun z => Int.mul_pos z (by omega)
  have arow : ar (rec4 y f l m) = m * (l - f + 1) := by unfold ar rec4; dsimp only; rw [Int.mul_comm]
  have self : ∀ b, 1 ≤ b → b ≤ m → b * (l - f + 1) < m * (l - f + 1) ∨ b = m := fun b hb hbm => by
    by_cases c : b = m
    · exact .inr c
    · exact .inl (Int.mul_lt_mul_of_pos_right (by omega) (by omega))
  unfold stepB
  dsimp only
  by_cases c : best.1 < m * (l - f + 1) ∨ (m * (l - f + 1) = best.1 ∧ 0 < m * (l - f + 1) ∧ lt5 (m * (l - f + 1), rec4 y f l m) best = true)
  · rw [if_pos c]
    have g0 : 0 ≤ best.1 := by
      rcases B.good with e | e
      · rw [e]; decide
      · omega
    have ap : 0 < m * (l - f + 1) := by
      rcases c with c | c
      · omega
      · exact c.2.1
    have mp := pos ap
    refine ⟨.inr ⟨ap, (rowC mp).1, (rowC mp).2, arow⟩, fun f' l' pr f0' fl' lw' b hb hi => ?_⟩
    rcases pr with pr | ⟨rfl, rfl⟩
    · have t := B.top f' l' pr f0' fl' lw' b hb hi
      rcases c with c | ⟨c1, c2, c3⟩
      · left
        dsimp only
        rcases t with t | t <;> omega
      · rcases t with t | ⟨t1, t2⟩
        · left; dsimp only; omega
        · right
          refine ⟨by dsimp only; omega, fun z => t2 ?_⟩
          rw [lt5_iff] at c3
          dsimp only at c3 z
          have c4 : lt4 (rec4 y f l m) best.2 = true := by
            rcases c3 with c3 | c3
            · omega
            · exact c3.2
          rw [lt4_iff] at z c4 ⊢
          omega
    · rcases self b hb ((hm b).2 hi) with z | rfl
      · exact .inl z
      · right
        refine ⟨rfl, fun z => ?_⟩
        rw [lt4_iff] at z
        dsimp only at z
        omega
  · rw [if_neg c]
    refine ⟨B.good, fun f' l' pr f0' fl' lw' b hb hi => ?_⟩
    rcases pr with pr | ⟨rfl, rfl⟩
    · exact B.top f' l' pr f0' fl' lw' b hb hi
    · have mp : 0 < m := by have := (hm b).2 hi; omega
      have ap := pos' mp
      rcases self b hb ((hm b).2 hi) with z | rfl
      · left; omega
      · by_cases e : b * (l' - f' + 1) = best.1
        · right
          refine ⟨e, fun z => c (.inr ⟨e, ap, lt5_iff.2 (.inr ⟨e, z⟩)⟩)⟩
        · left; omega
theorem tst_ok {a b : Int} {q : Bool} {Ω : Type} {K : Bool → Option Ω} : ((if (decide (b < a)) = true then some true else ((if (decide (a = b)) = true then (if (decide ((0 : Int) < a)) = true then (some q) else some false) else some false).bind fun z95 : Bool => some z95)).bind K) = K (decide (b < a ∨ (a = b ∧ 0 < a ∧ q = true))) := by
  by_cases c1 : b < a
  · rw [decide_eq_true c1, ite_t, decide_eq_true (.inl c1)]; rfl
  · rw [decide_eq_false c1, ite_f]
    by_cases c2 : a = b
    · rw [decide_eq_true c2, ite_t]
      by_cases c3 : 0 < a
      · rw [decide_eq_true c3, ite_t, Option.bind_some, Option.bind_some]
        congr 1
        cases q with
        | true => rw [decide_eq_true (.inr ⟨c2, c3, rfl⟩)]
        | false => rw [decide_eq_false (fun z => z.elim c1 fun z => by cases z.2.2)]
      · rw [decide_eq_false c3, ite_f, decide_eq_false (fun z : b < a ∨ (a = b ∧ 0 < a ∧ q = true) => z.elim c1 fun z => c3 z.2.1)]; rfl
    · rw [decide_eq_false c2, ite_f, decide_eq_false (fun z : b < a ∨ (a = b ∧ 0 < a ∧ q = true) => z.elim c1 fun z => c2 z.1)]; rfl
end
section
variable {D : List (List Int)} {w h : Nat}
theorem BI.imp {y : Nat} {Pr Qr : Int → Int → Prop} {best : Int × R4} (B : BI D w h y Pr best) (i : ∀ f l : Int, 0 ≤ f → f ≤ l → l < w → Qr f l → Pr f l) : BI D w h y Qr best := ⟨B.good, fun f l q a b c => B.top f l (i f l a b c q) a b c⟩
theorem stepB_if {Ω : Type} {row best : Int × R4} {m : Int} {kc : (Int × R4) × Int → Option Ω} : (if decide (best.1 < row.1 ∨ (row.1 = best.1 ∧ 0 < row.1 ∧ lt5 row best = true)) = true then kc (row, m) else kc (best, m)) = kc (stepB row best, m) := by
  unfold stepB
  rw [ite_d]
  by_cases c : best.1 < row.1 ∨ (row.1 = best.1 ∧ 0 < row.1 ∧ lt5 row best = true)
  · rw [if_pos c, if_pos c]
  · rw [if_neg c, if_neg c]
theorem best_ok (d : POk D w h) {y : Nat} (hy : y < h) : ∃ B : Int × R4, m_best_in (faL D w y) (y : Int) = some B ∧ BI D w h y (fun _ _ => True) B := by
  have hS : (1000000 : Nat) ≤ SZ := by decide
  have w1 := d.w1
  have w8 := d.w8
  unfold m_best_in
  dsimp only
  rw [faL_len, ck_pos (rgOk_s (by omega) (by omega) (by omega) (by omega))]
  have step : ∀ (i : Nat) (s : Int × R4) (f : Int), (rangeL 0 (w : Int))[i]? = some f → BI D w h y (fun f' _ => f' < ((0 + i : Nat) : Int)) s → ∃ s' : Int × R4, BI D w h y (fun f' _ => f' < ((0 + i + 1 : Nat) : Int)) s' ∧ ∀ kc : Int × R4 → Option (Int × R4),
      ((atI (faL D w y) f).bind fun y55 =>
        ck (rgOk f (w : Int)) (forO (rangeL f (w : Int)) (s, y55) (fun x61 (t60 : ((Int × R4) × Int)) kc62 => (
          (atI (faL D w y) x61).bind fun y66 =>
          ck (mulOk (min t60.2 y66) ((x61 - f) + (1 : Int))) (
          ((if (decide (t60.1.1 < (min t60.2 y66) * ((x61 - f) + (1 : Int)))) = true then some true else ((
          if (decide ((min t60.2 y66) * ((x61 - f) + (1 : Int)) = t60.1.1)) = true then (
          if (decide ((0 : Int) < (min t60.2 y66) * ((x61 - f) + (1 : Int)))) = true then (some (lt5 ((min t60.2 y66) * ((x61 - f) + (1 : Int)), f, (((y : Int) - (min t60.2 y66)) + (1 : Int)), ((x61 - f) + (1 : Int)), (min t60.2 y66)) t60.1)) else some false) else some false).bind fun z95 : Bool =>
          some z95))).bind fun z96 : Bool =>
          if z96 = true then (
            kc62 (((min t60.2 y66) * ((x61 - f) + (1 : Int)), f, (((y : Int) - (min t60.2 y66)) + (1 : Int)), ((x61 - f) + (1 : Int)), (min t60.2 y66)), (min t60.2 y66)))
          else (
            kc62 (t60.1, (min t60.2 y66))))))
          fun t105 : ((Int × R4) × Int) => (
          kc t105.1))) = kc s' := by
    intro i s f hf B
    have hi := lt_of_get hf
    rw [rng_len] at hi
    rw [rng_get (show i < w by omega)] at hf
    cases hf
    rw [Nat.zero_add] at B ⊢
    have inner : ∀ (n : Nat) (t : (Int × R4) × Int) (l : Int), (rangeL (i : Int) (w : Int))[n]? = some l → (BI D w h y (fun f' l' => f' < (i : Int) ∨ (f' = (i : Int) ∧ l' < (i : Int) + ((0 + n : Nat) : Int))) t.1 ∧ ∀ b, b ≤ t.2 ↔ b ≤ fa D (i : Int) y ∧ ∀ j, (i : Int) ≤ j → j < (i : Int) + ((0 + n : Nat) : Int) → b ≤ fa D j y) →
        ∃ t' : (Int × R4) × Int, (BI D w h y (fun f' l' => f' < (i : Int) ∨ (f' = (i : Int) ∧ l' < (i : Int) + ((0 + n + 1 : Nat) : Int))) t'.1 ∧ ∀ b, b ≤ t'.2 ↔ b ≤ fa D (i : Int) y ∧ ∀ j, (i : Int) ≤ j → j < (i : Int) + ((0 + n + 1 : Nat) : Int) → b ≤ fa D j y) ∧ ∀ kc62 : (Int × R4) × Int → Option (Int × R4),
          ((atI (faL D w y) l).bind fun y66 =>
          ck (mulOk (min t.2 y66) ((l - (i : Int)) + (1 : Int))) (
          ((if (decide (t.1.1 < (min t.2 y66) * ((l - (i : Int)) + (1 : Int)))) = true then some true else ((
          if (decide ((min t.2 y66) * ((l - (i : Int)) + (1 : Int)) = t.1.1)) = true then (
          if (decide ((0 : Int) < (min t.2 y66) * ((l - (i : Int)) + (1 : Int)))) = true then (some (lt5 ((min t.2 y66) * ((l - (i : Int)) + (1 : Int)), (i : Int), (((y : Int) - (min t.2 y66)) + (1 : Int)), ((l - (i : Int)) + (1 : Int)), (min t.2 y66)) t.1)) else some false) else some false).bind fun z95 : Bool =>
          some z95))).bind fun z96 : Bool =>
          if z96 = true then (
            kc62 (((min t.2 y66) * ((l - (i : Int)) + (1 : Int)), (i : Int), (((y : Int) - (min t.2 y66)) + (1 : Int)), ((l - (i : Int)) + (1 : Int)), (min t.2 y66)), (min t.2 y66)))
          else (
            kc62 (t.1, (min t.2 y66))))) = kc62 t' := by
      intro n t l hl it
      have hn := lt_of_get hl
      rw [rng_len] at hn
      have el : l = (i : Int) + (n : Int) := by
        unfold rangeL at hl
        rw [List.getElem?_map, List.getElem?_range (by omega)] at hl
        simp at hl; omega
      subst el
      obtain ⟨best, m⟩ := t
      obtain ⟨Bt, hm⟩ := it
      dsimp only at Bt hm ⊢
      rw [Nat.zero_add] at Bt hm ⊢
      have hm' : ∀ b, b ≤ min m (fa D ((i : Int) + (n : Int)) y) ↔ ∀ j, (i : Int) ≤ j → j ≤ (i : Int) + (n : Int) → b ≤ fa D j y := fun b => by
        have := hm b
        constructor
        · intro z j j1 j2
          by_cases e : j = (i : Int) + (n : Int)
          · rw [e]; omega
          · exact (this.1 (by omega)).2 j j1 (by omega)
        · intro z
          have z1 := z _ (by omega) (Int.le_refl ((i : Int) + (n : Int)))
          have z2 := this.2 ⟨z (i : Int) (Int.le_refl _) (by omega), fun j j1 j2 => z j j1 (by omega)⟩
          omega
      have St := Bt.step hy (f := (i : Int)) (l := (i : Int) + (n : Int)) (by omega) (by omega) (by omega) hm'
      generalize hmm : min m (fa D ((i : Int) + (n : Int)) y) = mm at hm' St
      refine ⟨(stepB (mm * ((i : Int) + (n : Int) - (i : Int) + 1), rec4 y (i : Int) ((i : Int) + (n : Int)) mm) best, mm), ⟨St.imp fun f' l' _ _ _ z => by omega, fun b => ?_⟩, fun kc62 => ?_⟩
      · rw [hm' b]
        constructor
        · intro z; exact ⟨z _ (Int.le_refl _) (by omega), fun j j1 j2 => z j j1 (by omega)⟩
        · intro z j j1 j2; exact z.2 j j1 (by omega)
      · rw [faL_at (by omega) (by omega), Option.bind_some, hmm, ck_pos (mulOk_r (by omega) (by omega))]
        exact tst_ok.trans (stepB_if (row := (mm * ((i : Int) + (n : Int) - (i : Int) + 1), rec4 y (i : Int) ((i : Int) + (n : Int)) mm)))
    obtain ⟨t', ⟨Bt, _⟩, ek⟩ := forO_run (Ω := Int × R4) (fun n (t : (Int × R4) × Int) => BI D w h y (fun f' l' => f' < (i : Int) ∨ (f' = (i : Int) ∧ l' < (i : Int) + (n : Int))) t.1 ∧ ∀ b, b ≤ t.2 ↔ b ≤ fa D (i : Int) y ∧ ∀ j, (i : Int) ≤ j → j < (i : Int) + (n : Int) → b ≤ fa D j y) (rangeL (i : Int) (w : Int)) 0 (s, fa D (i : Int) y) ⟨B.imp fun f' l' _ _ _ z => by omega, fun b => ⟨fun z => ⟨z, fun j j1 j2 => by omega⟩, fun z => z.1⟩⟩ inner
    refine ⟨t'.1, Bt.imp fun f' l' a b c z => ?_, fun kc => ?_⟩
    · rw [rng_len]
      omega
    · rw [faL_at (by omega) (by omega), Option.bind_some, ck_pos (rgOk_s (by omega) (by omega) (by omega) (by omega))]
      exact ek _
  obtain ⟨B, hB, ek⟩ := forO_run (Ω := Int × R4) (fun n (s : Int × R4) => BI D w h y (fun f' _ => f' < (n : Int)) s) (rangeL 0 (w : Int)) 0 (0, 0, 0, 0, 0) ⟨.inl rfl, fun f l pr f0 => by omega⟩ step
  rw [rng_len] at hB
  exact ⟨B, ek _, hB.imp fun f l a b c _ => by omega⟩
/-! ### what is asked -/
def bot (r : R4) : Int := r.2.1 + r.2.2.2
structure IsMx (D : List (List Int)) (w h : Nat) (A : Int) : Prop where
  nn : 0 ≤ A
  up : ∀ r, Clr D w h r → ar r ≤ A
  at_ : A ≠ 0 → ∃ r, Clr D w h r ∧ ar r = A
structure IsBar (D : List (List Int)) (w h : Nat) (y : Int) (v : Int) : Prop where
  nn : 0 ≤ v
  up : ∀ r, Clr D w h r → bot r = y + 1 → ar r ≤ v
  at_ : v ≠ 0 → ∃ r, Clr D w h r ∧ bot r = y + 1 ∧ ar r = v
structure IsBx (D : List (List Int)) (w h : Nat) (A : Int) (r : R4) : Prop where
  cl : Clr D w h r
  ar : ar r = A
  lo : ∀ r', Clr D w h r' → My.ar r' = A → ¬ lt4 r' r = true
theorem IsMx.uniq {A B : Int} (a : IsMx D w h A) (b : IsMx D w h B) : A = B := by
  by_cases za : A = 0
  · by_cases zb : B = 0
    · omega
    · obtain ⟨r, c, e⟩ := b.at_ zb
      have := a.up r c; have := b.nn; omega
  · obtain ⟨r, c, e⟩ := a.at_ za
    have h1 := b.up r c
    by_cases zb : B = 0
    · have := a.nn; omega
    · obtain ⟨r', c', e'⟩ := b.at_ zb
      have := a.up r' c'; omega
theorem IsBar.uniq {y A B : Int} (a : IsBar D w h y A) (b : IsBar D w h y B) : A = B := by
  by_cases za : A = 0
  · by_cases zb : B = 0
    · omega
    · obtain ⟨r, c, q, e⟩ := b.at_ zb
      have := a.up r c q; have := b.nn; omega
  · obtain ⟨r, c, q, e⟩ := a.at_ za
    have h1 := b.up r c q
    by_cases zb : B = 0
    · have := a.nn; omega
    · obtain ⟨r', c', q', e'⟩ := b.at_ zb
      have := a.up r' c' q'; omega
theorem lt4_tot {x y : R4} (a : ¬ lt4 x y = true) (b : ¬ lt4 y x = true) : x = y := by
  rw [lt4_iff] at a b
  obtain ⟨x1, x2, x3, x4⟩ := x
  obtain ⟨y1, y2, y3, y4⟩ := y
  dsimp only at a b
  simp only [Prod.mk.injEq]
  omega
theorem IsBx.uniq {A : Int} {r r' : R4} (a : IsBx D w h A r) (b : IsBx D w h A r') : r = r' := lt4_tot (b.lo r a.cl a.ar) (a.lo r' b.cl b.ar)
/-- the best of a row is its bar -/
theorem BI.bar {y : Nat} (hy : y < h) {B : Int × R4} (b : BI D w h y (fun _ _ => True) B) : IsBar D w h y B.1 ∧ (B.1 ≠ 0 → Clr D w h B.2 ∧ bot B.2 = y + 1 ∧ ar B.2 = B.1 ∧ ∀ r, Clr D w h r → bot r = y + 1 → ar r = B.1 → ¬ lt4 r B.2 = true) := by
  have key : ∀ r, Clr D w h r → bot r = y + 1 → ar r < B.1 ∨ (ar r = B.1 ∧ ¬ lt4 r B.2 = true) := fun r c e => by
    obtain ⟨x0, y0, a1, b1, xa, yb, z⟩ := c
    obtain ⟨x, t, a, bb⟩ := r
    unfold bot at e
    dsimp only at x0 y0 a1 b1 xa yb z e
    have := b.top x (x + a - 1) trivial x0 (by omega) (by omega) bb b1 fun i i1 i2 => (fa_iff D i y bb b1).2 ⟨by omega, fun q q1 q2 => z i q i1 (by omega) (by omega) (by omega)⟩
    have e1 : x + a - 1 - x + 1 = a := by omega
    rw [e1, Int.mul_comm] at this
    have e2 : rec4 (y : Int) x (x + a - 1) bb = (x, t, a, bb) := by
      unfold rec4
      simp only [Prod.mk.injEq, true_and, and_true]
      omega
    rw [e2] at this
    exact this
  have g0 : 0 ≤ B.1 := by
    rcases b.good with e | e
    · rw [e]; decide
    · omega
  refine ⟨⟨g0, fun r c e => ?_, fun n => ?_⟩, fun n => ?_⟩
  · rcases key r c e with z | z <;> omega
  · rcases b.good with e | e
    · rw [e] at n; exact absurd rfl n
    · exact ⟨B.2, e.2.1, e.2.2.1, e.2.2.2⟩
  · rcases b.good with e | e
    · rw [e] at n; exact absurd rfl n
    · refine ⟨e.2.1, e.2.2.1, e.2.2.2, fun r c q z => ?_⟩
      rcases key r c q with t | t
      · omega
      · exact t.2
end
section
variable {D : List (List Int)} {w h : Nat}
theorem lt4_irr (x : R4) : ¬ lt4 x x = true := fun z => by rw [lt4_iff] at z; omega
theorem min4 : ∀ (xs : List R4) (x : R4), xs.foldl (fun a y => if lt4 y a = true then y else a) x ∈ x :: xs ∧ ∀ y ∈ x :: xs, ¬ lt4 y (xs.foldl (fun a y => if lt4 y a = true then y else a) x) = true
  | [], x => ⟨by simp, fun y m => by simp at m; subst m; exact lt4_irr _⟩
  | z :: xs, x => by
    rw [List.foldl_cons]
    by_cases c : lt4 z x = true
    · rw [if_pos c]
      obtain ⟨a, b⟩ := min4 xs z
      refine ⟨List.mem_cons_of_mem _ a, fun y m => ?_⟩
      rcases List.mem_cons.1 m with rfl | m
      · intro q
        have := b z (by simp)
        rw [lt4_iff] at q this c
        omega
      · exact b y m
    · rw [if_neg c]
      obtain ⟨a, b⟩ := min4 xs x
      refine ⟨by
        rcases List.mem_cons.1 a with a | a
        · rw [a]; simp
        · simp [a], fun y m => ?_⟩
      rcases List.mem_cons.1 m with rfl | m
      · exact b y (by simp)
      · rcases List.mem_cons.1 m with rfl | m
        · intro q
          have := b x (by simp)
          rw [lt4_iff] at q this c
          omega
        · exact b y (by simp [m])
theorem minB4 {l : List R4} (hne : l ≠ []) : ∃ m, minB lt4 l = some m ∧ m ∈ l ∧ ∀ y ∈ l, ¬ lt4 y m = true := by
  cases l with
  | nil => exact absurd rfl hne
  | cons x xs => exact ⟨_, rfl, (min4 xs x).1, (min4 xs x).2⟩
structure BsF (D : List (List Int)) (w h : Nat) (bs : Nat → Int × R4) : Prop where
  d : POk D w h
  ok : ∀ {y : Nat}, y < h → m_best_in (faL D w y) (y : Int) = some (bs y) ∧ BI D w h y (fun _ _ => True) (bs y)
theorem bs_ex (d : POk D w h) : ∃ bs, BsF D w h bs := ⟨fun y => (m_best_in (faL D w y) (y : Int)).getD (0, 0, 0, 0, 0), d, fun {y} hy => by
  obtain ⟨B, e, b⟩ := best_ok d hy
  rw [e]
  exact ⟨rfl, b⟩⟩
variable {bs : Nat → Int × R4}
theorem faT_enum : enumL (faT D w h) = (rangeL 0 (h : Int)).map fun y => (y, faL D w y.toNat) := by
  rw [enumL_rng ([] : List Int)]
  have l : (faT D w h).length = h := by unfold faT; rw [List.length_map, rng_len]; omega
  rw [l]
  refine List.map_congr_left fun y my => ?_
  have my := mem_rng.1 my
  obtain ⟨n, rfl⟩ := Int.eq_ofNat_of_zero_le my.1
  unfold faT
  rw [Int.toNat_natCast, List.getD_eq_getElem?_getD, List.getElem?_map, rng_get (by omega)]; rfl
structure OffT (D : List (List Int)) (w h : Nat) (t : Int × Option R4 × List Int) : Prop where
  mx : IsMx D w h t.1
  bx0 : t.1 = 0 → t.2.1 = none
  bx1 : t.1 ≠ 0 → ∃ r, t.2.1 = some r ∧ IsBx D w h t.1 r
  len : t.2.2.length = h
  bar : ∀ y : Nat, y < h → IsBar D w h y (t.2.2.getD y 0)
theorem clr_bot {r : R4} (c : Clr D w h r) : ∃ y : Nat, y < h ∧ bot r = y + 1 := ⟨(bot r - 1).toNat, by have := c.y0; have := c.b1; have := c.yb; unfold bot; omega, by have := c.y0; have := c.b1; unfold bot; omega⟩
theorem offcut_ok (k : BsF D w h bs) : ∃ t, m_offcut D = some t ∧ OffT D w h t := by
  have d := k.d
  have hS : (1000000 : Nat) ≤ SZ := by decide
  have h8 := d.h8
  have h1 := d.h1
  unfold m_offcut
  rw [free_ok d, Option.bind_some]
  dsimp only
  rw [faT_enum]
  generalize hR : ((rangeL 0 (h : Int)).map fun y => bs y.toNat) = R
  have lR : R.length = h := by rw [← hR, List.length_map, rng_len]; omega
  have mR : ∀ B ∈ R, ∃ y : Nat, y < h ∧ B = bs y := fun B m => by
    rw [← hR] at m
    obtain ⟨y, my, rfl⟩ := List.mem_map.1 m
    have my := mem_rng.1 my
    exact ⟨y.toNat, by omega, rfl⟩
  have Rm : ∀ y : Nat, y < h → bs y ∈ R := fun y hy => by
    rw [← hR]
    exact List.mem_map.2 ⟨(y : Int), mem_rng.2 ⟨by omega, by omega⟩, rfl⟩
  have Ry : ∀ y : Nat, y < h → R[y]? = some (bs y) := fun y hy => by
    rw [← hR, List.getElem?_map, rng_get hy]; rfl
  rw [compO_map (fun p : Int × List Int => bs p.1.toNat) () _ [] (by rw [List.length_map, rng_len]; simp; omega) (fun p mp kc => by
    obtain ⟨y, my, rfl⟩ := List.mem_map.1 mp
    have my := mem_rng.1 my
    obtain ⟨n, rfl⟩ := Int.eq_ofNat_of_zero_le my.1
    dsimp only
    rw [Int.toNat_natCast, (k.ok (show n < h by omega)).1, Option.bind_some]), List.nil_append, List.map_map]
  have eR : ((rangeL 0 (h : Int)).map ((fun p : Int × List Int => bs p.1.toNat) ∘ fun y => (y, faL D w y.toNat))) = R := by
    rw [← hR]
    exact List.map_congr_left fun y my => rfl
  rw [eR, compO_map (fun B : Int × R4 => B.1) () _ [] (by simp; omega) (fun _ _ _ => rfl), List.nil_append]
  rw [ck_pos (decide_eq_true (by simp; omega))]
  obtain ⟨A, eA, mA, uA⟩ := maxI_some (l := R.map (fun B : Int × R4 => B.1) ++ [(0 : Int)]) (by simp)
  rw [eA, Option.bind_some]
  have A0 : 0 ≤ A := uA 0 (by simp)
  have upR : ∀ y : Nat, y < h → (bs y).1 ≤ A := fun y hy => uA _ (List.mem_append_left _ (List.mem_map.2 ⟨_, Rm y hy, rfl⟩))
  have mx : IsMx D w h A := ⟨A0, fun r c => by
    obtain ⟨y, hy, e⟩ := clr_bot c
    have := ((k.ok hy).2.bar hy).1.up r c e
    have := upR y hy
    omega, fun n => by
    rcases List.mem_append.1 mA with m | m
    · obtain ⟨B, mB, rfl⟩ := List.mem_map.1 m
      obtain ⟨y, hy, rfl⟩ := mR B mB
      obtain ⟨r, c, _, e⟩ := ((k.ok hy).2.bar hy).1.at_ n
      exact ⟨r, c, e⟩
    · simp at m; exact absurd m n⟩
  rw [compO_filterMap (fun B : Int × R4 => if decide (B.1 = A) = true then some B.2 else none) () _ [] (by simp; omega) (fun B _ kc => by split <;> rfl), List.nil_append]
  have bars : ∀ y : Nat, y < h → IsBar D w h y ((R.map (fun B : Int × R4 => B.1)).getD y 0) := fun y hy => by
    have : (R.map (fun B : Int × R4 => B.1)).getD y 0 = (bs y).1 := by
      rw [List.getD_eq_getElem?_getD, List.getElem?_map, Ry y hy]; rfl
    rw [this]
    exact ((k.ok hy).2.bar hy).1
  rw [ite_d]
  by_cases c : 0 < A
  · rw [if_pos c]
    obtain ⟨r0, c0, a0⟩ := mx.at_ (by omega)
    have hne : R.filterMap (fun B : Int × R4 => if decide (B.1 = A) = true then some B.2 else none) ≠ [] := fun e => by
      obtain ⟨y, hy, eb⟩ := clr_bot c0
      have u1 := ((k.ok hy).2.bar hy).1.up r0 c0 eb
      have u2 := upR y hy
      have : (bs y).2 ∈ R.filterMap (fun B : Int × R4 => if decide (B.1 = A) = true then some B.2 else none) := List.mem_filterMap.2 ⟨_, Rm y hy, by rw [if_pos (decide_eq_true (by omega))]⟩
      rw [e] at this; cases this
    obtain ⟨m, em, mm, um⟩ := minB4 hne
    rw [em, Option.bind_some, compO_map (fun B : Int × R4 => B.1) () _ [] (by simp; omega) (fun _ _ _ => rfl), List.nil_append]
    refine ⟨_, rfl, mx, fun z => absurd (show A = 0 from z) (by omega), fun _ => ⟨m, rfl, ?_⟩, by simp [lR], bars⟩
    show IsBx D w h A m
    obtain ⟨B, mB, eB⟩ := List.mem_filterMap.1 mm
    split at eB
    · rename_i z
      have z := of_decide_eq_true z
      cases eB
      obtain ⟨y, hy, rfl⟩ := mR B mB
      obtain ⟨q1, q2, q3, q4⟩ := ((k.ok hy).2.bar hy).2 (by omega)
      refine ⟨q1, by rw [q3, z], fun r' c' a' lt => ?_⟩
      obtain ⟨y', hy', eb'⟩ := clr_bot c'
      have u1 := ((k.ok hy').2.bar hy').1.up r' c' eb'
      have u2 := upR y' hy'
      obtain ⟨_, _, _, p4⟩ := ((k.ok hy').2.bar hy').2 (by omega)
      have n1 := p4 r' c' eb' (by omega)
      have n2 := um (bs y').2 (List.mem_filterMap.2 ⟨_, Rm y' hy', by rw [if_pos (decide_eq_true (by omega))]⟩)
      rw [lt4_iff] at n1 n2 lt
      omega
    · cases eB
  · rw [if_neg c, compO_map (fun B : Int × R4 => B.1) () _ [] (by simp; omega) (fun _ _ _ => rfl), List.nil_append]
    exact ⟨_, rfl, mx, fun _ => rfl, fun z => absurd (show A ≠ 0 from z) (by omega), by simp [lR], bars⟩
/-! ### faults -/
instance : DecidablePred (Clr D w h) := fun r => decidable_of_iff (r ∈ allR D w h) mem_allR
theorem clear_ok (d : POk D w h) (r : R4) : m_clear D r = some (decide (Clr D w h r)) := by
  have hS : (1000000 : Nat) ≤ SZ := by decide
  have rD := d.rc
  have w8 := d.w8
  have h8 := d.h8
  have h1 := d.h1
  obtain ⟨x, y, a, b⟩ := r
  unfold m_clear
  dsimp only
  obtain ⟨e0, l0⟩ := rD.row (y := 0) (by decide) (by omega)
  rw [e0, Option.bind_some, l0, rD.lh]
  have tst : (if (decide (x < (0 : Int))) = true then some true else if (decide (y < (0 : Int))) = true then some true else if (decide (a < (1 : Int))) = true then some true else if (decide (b < (1 : Int))) = true then some true else if (decide ((h : Int) < y + b)) = true then some true else some (decide ((w : Int) < x + a))) = some (!decide ((0 ≤ x ∧ 0 ≤ y) ∧ (1 ≤ a ∧ 1 ≤ b) ∧ y + b ≤ h ∧ x + a ≤ w)) := by
    rw [or_some, or_some, or_some, or_some, or_some]
    congr 1
    rw [← decide_not, decide_eq_decide]
    omega
  refine bind_eq_of tst ?_
  rw [ite_nd]
  by_cases c : (0 ≤ x ∧ 0 ≤ y) ∧ (1 ≤ a ∧ 1 ≤ b) ∧ y + b ≤ h ∧ x + a ≤ w
  · rw [if_pos c, ck_pos (rgOk_s (by omega) (by omega) (by omega) (by omega))]
    have rl : ∀ lo hi : Int, 0 ≤ lo → hi ≤ 9 → (rangeL lo hi).length ≤ 9 := fun lo hi a b => by rw [rng_len]; omega
    refine (forO_flat (fun q => (rangeL x (x + a)).map fun p => decide (gt 0 D (p, q) = 0)) 9 100000 _ [] (by have := rl y (y + b) (by omega) (by omega); simp; omega) (fun q _ => by rw [List.length_map]; exact rl _ _ (by omega) (by omega)) fun q mq t kc ht => ?_).trans ?_
    · have mq := mem_rng.1 mq
      rw [ck_pos (rgOk_s (by omega) (by omega) (by omega) (by omega))]
      refine (forO_filt (fun p : Int => some (decide (gt 0 D (p, q) = 0))) _ t (by have := rl x (x + a) (by omega) (by omega); omega) fun p mp t2 kc2 ht2 => ?_).trans ?_
      · have mp := mem_rng.1 mp
        refine (rD.at 0 (c := (p, q)) ⟨by dsimp only; omega, by dsimp only; omega, by dsimp only; omega, by dsimp only; omega⟩ _).trans ?_
        rw [ck_pos (decide_eq_true ht2)]; rfl
      · rw [show (fun p : Int => some (decide (gt 0 D (p, q) = 0))) = (some ∘ fun p : Int => decide (gt 0 D (p, q) = 0)) from rfl, List.filterMap_eq_map]
    · rw [List.nil_append]
      congr 1
      rw [Bool.eq_iff_iff, List.all_eq_true, decide_eq_true_eq]
      constructor
      · intro z
        exact ⟨c.1.1, c.1.2, c.2.1.1, c.2.1.2, c.2.2.2, c.2.2.1, fun p q p1 p2 q1 q2 => of_decide_eq_true (z _ (List.mem_flatMap.2 ⟨q, mem_rng.2 ⟨q1, q2⟩, List.mem_map.2 ⟨p, mem_rng.2 ⟨p1, p2⟩, rfl⟩⟩))⟩
      · intro z v mv
        obtain ⟨q, mq, mv⟩ := List.mem_flatMap.1 mv
        obtain ⟨p, mp, rfl⟩ := List.mem_map.1 mv
        have mq := mem_rng.1 mq
        have mp := mem_rng.1 mp
        exact decide_eq_true (z.z p q mp.1 mp.2 mq.1 mq.2)
  · rw [if_neg c, decide_eq_false (fun z : Clr D w h (x, y, a, b) => c ⟨⟨z.x0, z.y0⟩, ⟨z.a1, z.b1⟩, z.yb, z.xa⟩)]
def barV (bs : Nat → Int × R4) (y : Int) : Int := (bs y.toNat).1
theorem lbar_ok (k : BsF D w h bs) {y : Int} (y0 : 0 ≤ y) (y1 : y < h) : m__law_bar (allR D w h) y = some (barV bs y) := by
  have hS : (1000000 : Nat) ≤ SZ := by decide
  have d := k.d
  have la := all_len d
  unfold m__law_bar
  rw [compO_filterMap (fun r : R4 => if decide (r.2.1 + r.2.2.2 = y + 1) = true then some (ar r) else none) () _ [] (by simp; omega) (fun r mr kc => by
    have c := mem_allR.1 mr
    have := c.a1
    have := c.xa
    have := c.x0
    have := d.w8
    rw [ck_pos (mulOk_l (by omega) (by omega))]
    split <;> rfl), List.nil_append]
  dsimp only
  rw [ck_pos (decide_eq_true (by
    have := List.length_filterMap_le (fun r : R4 => if decide (r.2.1 + r.2.2.2 = y + 1) = true then some (ar r) else none) (allR D w h)
    simp only [List.length_cons, List.length_nil]; omega))]
  obtain ⟨v, ev, mv, uv⟩ := maxI_some (l := [(0 : Int)] ++ (allR D w h).filterMap fun r : R4 => if decide (r.2.1 + r.2.2.2 = y + 1) = true then some (ar r) else none) (by simp)
  rw [ev, Option.bind_some]
  obtain ⟨n, rfl⟩ := Int.eq_ofNat_of_zero_le y0
  have ib : IsBar D w h n v := ⟨uv 0 (by simp), fun r c e => uv _ (List.mem_append_right _ (List.mem_filterMap.2 ⟨r, mem_allR.2 c, by rw [if_pos (decide_eq_true (show r.2.1 + r.2.2.2 = (n : Int) + 1 from e))]⟩)), fun nz => by
    rcases List.mem_append.1 mv with m | m
    · simp at m; exact absurd m nz
    · obtain ⟨r, mr, e⟩ := List.mem_filterMap.1 m
      split at e
      · rename_i z
        cases e
        exact ⟨r, mem_allR.1 mr, of_decide_eq_true z, rfl⟩
      · cases e⟩
  have := ib.uniq ((k.ok (show n < h by omega)).2.bar (by omega)).1
  rw [this]
  unfold barV
  rw [Int.toNat_natCast]
def rectB (D : List (List Int)) (w h : Nat) (A : Int) : Option R4 → Bool
  | none => false
  | some r => !decide (Clr D w h r ∧ ar r = A)
def faultR (bs : Nat → Int × R4) (D : List (List Int)) (w h : Nat) (A : Int) (bx : Option R4) (bars : List Int) : PyData :=
  if bx.isNone = decide (A = 0) then (if rectB D w h A bx = true then wd "rectangle" else if bars.length = h then ((rangeL 0 (h : Int)).find? fun y => decide (A < bars.getD y.toNat 0 ∨ bars.getD y.toNat 0 < barV bs y)).elim .none (fun y => wd1 "bar" y) else wd "bars") else wd "none"
theorem isN4 {bx : Option R4} : isNone ((eO (eT4 eI eI eI eI) nnT4).enc bx) = bx.isNone := by cases bx <;> rfl
theorem faultR_sh {A : Int} {bx : Option R4} {bars : List Int} : SeqAt.shaped (faultR bs D w h A bx bars) = true := by
  unfold faultR
  split
  · split
    · exact shaped_wd (by decide +kernel)
    · split
      · cases (rangeL 0 (h : Int)).find? fun y => decide (A < bars.getD y.toNat 0 ∨ bars.getD y.toNat 0 < barV bs y) with
        | none => exact shaped_none
        | some y => exact shaped_wd1 (by decide +kernel)
      · exact shaped_wd (by decide +kernel)
  · exact shaped_wd (by decide +kernel)
theorem bars_at {bars : List Int} {y : Int} (hl : bars.length = h) (y0 : 0 ≤ y) (y1 : y < h) : atI bars y = some (bars.getD y.toNat 0) := at_getD 0 y0 (by omega)
theorem pfault_ok (k : BsF D w h bs) (A : Int) (bx : Option R4) (bars : List Int) : m_offcut_fault D (A, bx, bars) = some (faultR bs D w h A bx bars) := by
  have d := k.d
  unfold m_offcut_fault faultR
  dsimp only
  rw [isN4, ite_nd]
  by_cases c0 : bx.isNone = decide (A = 0)
  · rw [if_pos c0, if_pos c0]
    have z : ((if (!bx.isNone) = true then ((bx.bind fun y219 =>
      (m_clear D y219).bind fun r221 =>
      if (!r221) = true then some true else (bx.bind fun y223 =>
      bx.bind fun y225 =>
      ck (mulOk y223.2.2.1 y225.2.2.2) (some (!decide ((y223.2.2.1 * y225.2.2.2) = A))))).bind fun z227 : Bool =>
      some z227) else some false)) = some (rectB D w h A bx) := by
      cases bx with
      | none => rfl
      | some r =>
        show Option.bind (Option.bind (m_clear D r) _) _ = _
        rw [clear_ok d, Option.bind_some]
        show _ = some (!decide (Clr D w h r ∧ ar r = A))
        by_cases c : Clr D w h r
        · have := c.a1
          have := c.xa
          have := c.x0
          have := d.w8
          rw [decide_eq_true c, ite_nt, Option.bind_some, Option.bind_some, ck_pos (mulOk_l (by omega) (by omega)), Option.bind_some]
          congr 2
          rw [decide_eq_decide]
          exact ⟨fun z => ⟨c, z⟩, fun z => z.2⟩
        · rw [decide_eq_false c, ite_nf, decide_eq_false (fun z => c z.1)]; rfl
    refine bind_eq_of z ?_
    cases rectB D w h A bx with
    | true => rfl
    | false =>
      rw [ite_f, ite_f, d.rc.lh, ite_nd]
      by_cases c1 : bars.length = h
      · rw [if_pos (by omega), if_pos c1, free_ok d, Option.bind_some, faT_enum, forO_mapL]
        refine (forO_find (fun y => decide (A < bars.getD y.toNat 0 ∨ bars.getD y.toNat 0 < barV bs y)) (fun y => wd1 "bar" y) _ fun y my kc => ?_).trans ?_
        · have my := mem_rng.1 my
          obtain ⟨n, rfl⟩ := Int.eq_ofNat_of_zero_le my.1
          rw [bars_at c1 my.1 my.2, Option.bind_some]
          dsimp only
          rw [Int.toNat_natCast, (k.ok (show n < h by omega)).1, Option.bind_some, Option.bind_some, or_some, Option.bind_some]
          rfl
        · cases (rangeL 0 (h : Int)).find? fun y => decide (A < bars.getD y.toNat 0 ∨ bars.getD y.toNat 0 < barV bs y) <;> rfl
      · rw [if_neg (by omega), if_neg c1]; rfl
  · rw [if_neg c0, if_neg c0]; rfl
theorem lfault_ok (k : BsF D w h bs) (A : Int) (bx : Option R4) (bars : List Int) : m__law_fault D (A, bx, bars) = some (faultR bs D w h A bx bars) := by
  have d := k.d
  unfold m__law_fault faultR
  dsimp only
  rw [all_ok d, Option.bind_some, isN4, ite_nd]
  by_cases c0 : bx.isNone = decide (A = 0)
  · rw [if_pos c0, if_pos c0]
    have z : ((if (!bx.isNone) = true then ((bx.bind fun y524 =>
      if (!inB y524 (allR D w h)) = true then some true else (bx.bind fun y526 =>
      bx.bind fun y528 =>
      ck (mulOk y526.2.2.1 y528.2.2.2) (some (!decide ((y526.2.2.1 * y528.2.2.2) = A))))).bind fun z530 : Bool =>
      some z530) else some false)) = some (rectB D w h A bx) := by
      cases bx with
      | none => rfl
      | some r =>
        show Option.bind (if (!inB r (allR D w h)) = true then some true else _) _ = some (!decide (Clr D w h r ∧ ar r = A))
        by_cases c : Clr D w h r
        · have := c.a1
          have := c.xa
          have := c.x0
          have := d.w8
          rw [inB_iff.2 (mem_allR.2 c), ite_nt, Option.bind_some, Option.bind_some, ck_pos (mulOk_l (by omega) (by omega)), Option.bind_some]
          congr 2
          rw [decide_eq_decide]
          exact ⟨fun z => ⟨c, z⟩, fun z => z.2⟩
        · have : inB r (allR D w h) = false := by
            cases e : inB r (allR D w h) with
            | false => rfl
            | true => exact absurd (mem_allR.1 (inB_iff.1 e)) c
          rw [this, ite_nf, decide_eq_false (fun z => c z.1)]; rfl
    refine bind_eq_of z ?_
    cases rectB D w h A bx with
    | true => rfl
    | false =>
      rw [ite_f, ite_f, d.rc.lh, ite_nd]
      have h8 := d.h8
      by_cases c1 : bars.length = h
      · rw [if_pos (by omega), if_pos c1, c1, ck_pos (rgOk_s (by omega) (by omega) (by omega) (by omega))]
        refine (forO_find (fun y => decide (A < bars.getD y.toNat 0 ∨ bars.getD y.toNat 0 < barV bs y)) (fun y => wd1 "bar" y) _ fun y my kc => ?_).trans ?_
        · have my := mem_rng.1 my
          rw [bars_at c1 my.1 my.2, Option.bind_some, Option.bind_some, lbar_ok k my.1 my.2, Option.bind_some, or_some, Option.bind_some]
          rfl
        · cases (rangeL 0 (h : Int)).find? fun y => decide (A < bars.getD y.toNat 0 ∨ bars.getD y.toNat 0 < barV bs y) <;> rfl
      · rw [if_neg (by omega), if_neg c1]; rfl
  · rw [if_neg c0, if_neg c0]; rfl
end
/-! ### filling a box -/
section
variable {w h : Nat}
theorem rng_is {lo hi q : Int} {i : Nat} (e : (rangeL lo hi)[i]? = some q) : q = lo + i ∧ lo + i < hi := by
  unfold rangeL at e
  rw [List.getElem?_map] at e
  by_cases c : i < (hi - lo).toNat
  · rw [List.getElem?_range c] at e
    simp only [Option.map_some, Option.some.injEq] at e
    exact ⟨e.symm, by omega⟩
  · rw [List.getElem?_eq_none (by rw [List.length_range]; omega)] at e; cases e
theorem fill_ok {Ω : Type} {T : List (List Int)} (rT : Rc T w h) (hw : w ≤ 8) (hh : h ≤ 8) {x y a b : Int} (x0 : 0 ≤ x) (y0 : 0 ≤ y) (a1 : 1 ≤ a) (b1 : 1 ≤ b) (xa : x + a ≤ w) (yb : y + b ≤ h) (v : Int) : ∃ T', (Rc T' w h ∧ ∀ c, Ins w h c → gt 0 T' c = if (x ≤ c.1 ∧ c.1 < x + a) ∧ y ≤ c.2 ∧ c.2 < y + b then v else gt 0 T c) ∧ ∀ k : List (List Int) → Option Ω,
    ck (rgOk y (y + b)) (forO (rangeL y (y + b)) T (fun q t kc => ck (rgOk x (x + a)) (forO (rangeL x (x + a)) t (fun p t' kc2 => (ixN (List.length t') q).bind fun n => (ixN (List.length (List.getD t' n [])) p).bind fun m => kc2 (List.set t' n (List.set (List.getD t' n []) m v))) fun t => kc t)) k) = k T' := by
  obtain ⟨T', ⟨hT, hG⟩, e⟩ := forO_run (Ω := Ω) (fun n (t : List (List Int)) => Rc t w h ∧ ∀ c, Ins w h c → gt 0 t c = if (x ≤ c.1 ∧ c.1 < x + a) ∧ y ≤ c.2 ∧ c.2 < y + (n : Int) then v else gt 0 T c) (b := fun q t kc => ck (rgOk x (x + a)) (forO (rangeL x (x + a)) t (fun p t' kc2 => (ixN (List.length t') q).bind fun n => (ixN (List.length (List.getD t' n [])) p).bind fun m => kc2 (List.set t' n (List.set (List.getD t' n []) m v))) fun t => kc t)) (rangeL y (y + b)) 0 T ⟨rT, fun c _ => by rw [if_neg (by omega)]⟩ (fun i t q hq ht => by
    obtain ⟨rt, gtt⟩ := ht
    obtain ⟨rfl, hq2⟩ := rng_is hq
    rw [Nat.zero_add] at gtt
    obtain ⟨t', ⟨ht', hg'⟩, e'⟩ := forO_run (Ω := Ω) (fun n (s : List (List Int)) => Rc s w h ∧ ∀ c, Ins w h c → gt 0 s c = if (x ≤ c.1 ∧ c.1 < x + (n : Int)) ∧ c.2 = y + i then v else gt 0 t c) (b := fun p t' kc2 => (ixN (List.length t') (y + i)).bind fun n => (ixN (List.length (List.getD t' n [])) p).bind fun m => kc2 (List.set t' n (List.set (List.getD t' n []) m v))) (rangeL x (x + a)) 0 t ⟨rt, fun c _ => by rw [if_neg (by omega)]⟩ (fun j s p hp hs => by
      obtain ⟨rs, gs⟩ := hs
      obtain ⟨rfl, hp2⟩ := rng_is hp
      rw [Nat.zero_add] at gs
      have ic : Ins w h (x + (j : Int), y + (i : Int)) := ⟨by dsimp only; omega, by dsimp only; omega, by dsimp only; omega, by dsimp only; omega⟩
      obtain ⟨q1, q2⟩ := setC_run rs ic
      refine ⟨setC s (x + (j : Int), y + (i : Int)) v, ⟨setC_rc rs ic v, fun c icc => ?_⟩, fun kc => ?_⟩
      · rw [setC_gt 0 rs ic icc, gs c icc, Nat.zero_add]
        obtain ⟨c1, c2⟩ := c
        simp only [Prod.mk.injEq]
        by_cases z : c1 = x + (j : Int) ∧ c2 = y + (i : Int)
        · rw [if_pos z, if_pos (by omega)]
        · rw [if_neg z]
          by_cases z2 : (x ≤ c1 ∧ c1 < x + (j : Int)) ∧ c2 = y + (i : Int)
          · rw [if_pos z2, if_pos (by omega)]
          · rw [if_neg z2, if_neg (by omega)]
      · dsimp only at q1 q2 ⊢
        rw [q1, Option.bind_some, q2, Option.bind_some]
        rfl)
    refine ⟨t', ⟨ht', fun c ic => ?_⟩, fun kc => ?_⟩
    · rw [hg' c ic, gtt c ic, Nat.zero_add, Nat.zero_add, rng_len]
      by_cases z : (x ≤ c.1 ∧ c.1 < x + ((x + a - x).toNat : Int)) ∧ c.2 = y + (i : Int)
      · rw [if_pos z, if_pos (by omega)]
      · rw [if_neg z]
        by_cases z2 : (x ≤ c.1 ∧ c.1 < x + a) ∧ y ≤ c.2 ∧ c.2 < y + (i : Int)
        · rw [if_pos z2, if_pos (by omega)]
        · rw [if_neg z2, if_neg (by omega)]
    · rw [ck_pos (rgOk_s (by omega) (by omega) (by omega) (by omega))]
      exact e' kc)
  rw [Nat.zero_add, rng_len] at hG
  refine ⟨T', ⟨hT, fun c ic => ?_⟩, fun k => ?_⟩
  · rw [hG c ic, show y + ((y + b - y).toNat : Int) = y + b by omega]
  · rw [ck_pos (rgOk_s (by omega) (by omega) (by omega) (by omega))]
    exact e k
/-! ### the same zeros -/
def SZr (D E : List (List Int)) (w h : Nat) : Prop := ∀ c, Ins w h c → (gt 0 D c = 0 ↔ gt 0 E c = 0)
theorem SZr.symm {D E : List (List Int)} (s : SZr D E w h) : SZr E D w h := fun c i => (s c i).symm
theorem SZr.clr {D E : List (List Int)} (s : SZr D E w h) {r : R4} (c : Clr D w h r) : Clr E w h r := ⟨c.x0, c.y0, c.a1, c.b1, c.xa, c.yb, fun p q p1 p2 q1 q2 => (s (p, q) ⟨by have := c.x0; dsimp only; omega, by have := c.xa; dsimp only; omega, by have := c.y0; dsimp only; omega, by have := c.yb; dsimp only; omega⟩).1 (c.z p q p1 p2 q1 q2)⟩
theorem SZr.mx {D E : List (List Int)} (s : SZr D E w h) {A : Int} (m : IsMx D w h A) : IsMx E w h A := ⟨m.nn, fun r c => m.up r (s.symm.clr c), fun n => by
  obtain ⟨r, c, e⟩ := m.at_ n
  exact ⟨r, s.clr c, e⟩⟩
theorem SZr.bx {D E : List (List Int)} (s : SZr D E w h) {A : Int} {r : R4} (m : IsBx D w h A r) : IsBx E w h A r := ⟨s.clr m.cl, m.ar, fun r' c e => m.lo r' (s.symm.clr c) e⟩
def gridL (w h : Nat) : List Cl := (rangeL 0 (h : Int)).flatMap fun q => (rangeL 0 (w : Int)).map fun p => (p, q)
theorem mem_grid {c : Cl} : c ∈ gridL w h ↔ Ins w h c := by
  unfold gridL Ins
  simp only [List.mem_flatMap, List.mem_map, mem_rng]
  constructor
  · rintro ⟨q, hq, p, hp, rfl⟩; exact ⟨hp.1, hp.2, hq.1, hq.2⟩
  · rintro ⟨a, b, c1, d⟩; exact ⟨c.2, ⟨c1, d⟩, c.1, ⟨a, b⟩, rfl⟩
theorem countP_lt {α : Type} {P Q : α → Bool} : ∀ l : List α, (∀ x ∈ l, P x = true → Q x = true) → (∃ x ∈ l, Q x = true ∧ P x = false) → l.countP P < l.countP Q
  | [], _, h => by obtain ⟨x, m, _⟩ := h; cases m
  | x :: l, h, e => by
    rw [List.countP_cons, List.countP_cons]
    have mono : l.countP P ≤ l.countP Q := List.countP_mono_left fun y m => h y (List.mem_cons_of_mem _ m)
    obtain ⟨z, mz, q, p⟩ := e
    rcases List.mem_cons.1 mz with rfl | mz
    · rw [q, p]; simp; omega
    · have := countP_lt l (fun y m => h y (List.mem_cons_of_mem _ m)) ⟨z, mz, q, p⟩
      have hx := h x (List.mem_cons_self ..)
      cases ep : P x with
      | false => simp; omega
      | true => rw [hx ep]; simp; omega
def zc (D : List (List Int)) (w h : Nat) : Nat := (gridL w h).countP fun c => decide (gt 0 D c = 0)
theorem zc_le {D : List (List Int)} (hw : w ≤ 8) (hh : h ≤ 8) : zc D w h ≤ 64 := by
  have e1 := flat_len (fun q : Int => (rangeL 0 (w : Int)).map fun p => (p, q)) 8 (rangeL 0 (h : Int)) fun q _ => by rw [List.length_map, rng_len]; omega
  have e2 : zc D w h ≤ (gridL w h).length := List.countP_le_length ..
  have e3 : (rangeL 0 (h : Int)).length ≤ 8 := by rw [rng_len]; omega
  unfold gridL at e2
  omega
theorem nn_of {D : List (List Int)} (r : Rc D w h) (g : ∀ c, Ins w h c → 0 ≤ gt 0 D c ∧ gt 0 D c ≤ 9) : ∀ r ∈ D, ∀ v ∈ r, 0 ≤ v ∧ v ≤ 9 := fun q mq v mv => by
  obtain ⟨b, hb, rfl⟩ := List.getElem_of_mem mq
  obtain ⟨a, ha, rfl⟩ := List.getElem_of_mem mv
  have l1 := r.lh
  have l2 := r.lw _ mq
  have := g ((a : Int), (b : Int)) ⟨by dsimp only; omega, by dsimp only; omega, by dsimp only; omega, by dsimp only; omega⟩
  have e : gt 0 D ((a : Int), (b : Int)) = (D[b])[a] := by
    unfold gt
    dsimp only
    rw [Int.toNat_natCast, Int.toNat_natCast, List.getD_eq_getElem?_getD, List.getD_eq_getElem?_getD, List.getElem?_eq_getElem hb, Option.getD_some, List.getElem?_eq_getElem ha, Option.getD_some]
  rw [← e]; exact this
theorem gt_bd9 {D : List (List Int)} (d : POk D w h) {c : Cl} (i : Ins w h c) : 0 ≤ gt 0 D c ∧ gt 0 D c ≤ 9 := by
  obtain ⟨h0, h1, h2, h3⟩ := i
  obtain ⟨x, y⟩ := c
  dsimp only at h0 h1 h2 h3
  obtain ⟨a, rfl⟩ := Int.eq_ofNat_of_zero_le h0
  obtain ⟨b, rfl⟩ := Int.eq_ofNat_of_zero_le h2
  have hb : b < D.length := by rw [d.rc.lh]; omega
  have lr := d.rc.lw _ (List.getElem_mem hb)
  unfold gt
  simp only [Int.toNat_natCast, List.getD_eq_getElem?_getD, List.getElem?_eq_getElem hb, Option.getD_some]
  rw [List.getElem?_eq_getElem (by omega)]
  exact d.nn _ (List.getElem_mem hb) _ (List.getElem_mem (by omega))
/-- a box that is clear is filled -/
theorem fillP {Ω : Type} {D : List (List Int)} (d : POk D w h) {r : R4} (c : Clr D w h r) {v : Int} (v0 : 1 ≤ v) (v9 : v ≤ 9) : ∃ T', (POk T' w h ∧ (∀ o, Ins w h o → (gt 0 T' o = 0 ↔ gt 0 D o = 0 ∧ ¬ ((r.1 ≤ o.1 ∧ o.1 < r.1 + r.2.2.1) ∧ r.2.1 ≤ o.2 ∧ o.2 < r.2.1 + r.2.2.2)))) ∧ ∀ k : List (List Int) → Option Ω,
    ck (rgOk r.2.1 (r.2.1 + r.2.2.2)) (forO (rangeL r.2.1 (r.2.1 + r.2.2.2)) D (fun q t kc => ck (rgOk r.1 (r.1 + r.2.2.1)) (forO (rangeL r.1 (r.1 + r.2.2.1)) t (fun p t' kc2 => (ixN (List.length t') q).bind fun n => (ixN (List.length (List.getD t' n [])) p).bind fun m => kc2 (List.set t' n (List.set (List.getD t' n []) m v))) fun t => kc t)) k) = k T' := by
  obtain ⟨T', ⟨rT, gT⟩, e⟩ := fill_ok (Ω := Ω) d.rc d.w8 d.h8 c.x0 c.y0 c.a1 c.b1 c.xa c.yb v
  refine ⟨T', ⟨⟨rT, d.w1, d.w8, d.h1, d.h8, nn_of rT fun o io => ?_⟩, fun o io => ?_⟩, e⟩
  · rw [gT o io]
    split
    · omega
    · exact gt_bd9 d io
  · rw [gT o io]
    split
    · rename_i z
      exact ⟨fun q => by omega, fun q => absurd z q.2⟩
    · rename_i z
      exact ⟨fun q => ⟨q, z⟩, fun q => q.1⟩
theorem zc_lt {D E : List (List Int)} {r : R4} (c : Clr D w h r) (g : ∀ o, Ins w h o → (gt 0 E o = 0 ↔ gt 0 D o = 0 ∧ ¬ ((r.1 ≤ o.1 ∧ o.1 < r.1 + r.2.2.1) ∧ r.2.1 ≤ o.2 ∧ o.2 < r.2.1 + r.2.2.2))) : zc E w h < zc D w h := by
  have x0 := c.x0
  have y0 := c.y0
  have a1 := c.a1
  have b1 := c.b1
  have xa := c.xa
  have yb := c.yb
  have ic : Ins w h (r.1, r.2.1) := ⟨by dsimp only; omega, by dsimp only; omega, by dsimp only; omega, by dsimp only; omega⟩
  refine countP_lt _ (fun o m z => decide_eq_true ((g o (mem_grid.1 m)).1 (of_decide_eq_true z)).1) ⟨(r.1, r.2.1), mem_grid.2 ic, decide_eq_true (c.z _ _ (by omega) (by omega) (by omega) (by omega)), decide_eq_false fun z => ((g _ ic).1 z).2 ⟨⟨by dsimp only; omega, by dsimp only; omega⟩, by dsimp only; omega, by dsimp only; omega⟩⟩
/-! ### the law's most, and its boxes -/
theorem most_ok {Ω : Type} {D : List (List Int)} (d : POk D w h) : ∃ A, (IsMx D w h A ∧ A ≤ 64) ∧ ∀ K : Int → Option Ω, (compO (allR D w h) () (fun x (t : Unit) kc => (
    ck (mulOk x.2.2.1 x.2.2.2) (kc (some (x.2.2.1 * x.2.2.2)) ()))) [] fun (ys : List Int) (t : Unit) => (
    ck (decide (List.length [(0 : Int)] + List.length ys ≤ SZ)) ((maxI ([(0 : Int)] ++ ys)).bind K))) = K A := by
  have hS : (1000000 : Nat) ≤ SZ := by decide
  have la := all_len d
  obtain ⟨v, ev, mv, uv⟩ := maxI_some (l := [(0 : Int)] ++ (allR D w h).map ar) (by simp)
  have mx : IsMx D w h v := ⟨uv 0 (by simp), fun r c => uv _ (List.mem_append_right _ (List.mem_map.2 ⟨r, mem_allR.2 c, rfl⟩)), fun n => by
    rcases List.mem_append.1 mv with m | m
    · simp at m; exact absurd m n
    · obtain ⟨r, mr, e⟩ := List.mem_map.1 m
      exact ⟨r, mem_allR.1 mr, e⟩⟩
  refine ⟨v, ⟨mx, ?_⟩, fun K => ?_⟩
  · by_cases z : v = 0
    · omega
    · obtain ⟨r, c, e⟩ := mx.at_ z
      have := ar_bd d.w8 d.h8 c
      omega
  · rw [compO_map ar () _ [] (by simp; omega) (fun r mr kc => by
      have c := mem_allR.1 mr
      have := c.a1
      have := c.xa
      have := c.x0
      have := d.w8
      rw [ck_pos (mulOk_l (by omega) (by omega))]; rfl), List.nil_append, ck_pos (decide_eq_true (by rw [List.length_map]; simp only [List.length_cons, List.length_nil]; omega)), ev, Option.bind_some]
def fbx (D : List (List Int)) (w h : Nat) (A : Int) : List R4 := (allR D w h).filterMap fun r => if decide (ar r = A) = true then some r else none
theorem mem_fbx {D : List (List Int)} {A : Int} {r : R4} : r ∈ fbx D w h A ↔ Clr D w h r ∧ ar r = A := by
  unfold fbx
  rw [List.mem_filterMap]
  constructor
  · rintro ⟨q, mq, e⟩
    split at e
    · rename_i z
      cases e
      exact ⟨mem_allR.1 mq, of_decide_eq_true z⟩
    · cases e
  · rintro ⟨c, e⟩
    exact ⟨r, mem_allR.2 c, by rw [if_pos (decide_eq_true e)]⟩
theorem fbx_ok {Ω : Type} {D : List (List Int)} (d : POk D w h) {A : Int} {K : List R4 → Unit → Option Ω} : (compO (allR D w h) () (fun x (t : Unit) kc => (
    ck (mulOk x.2.2.1 x.2.2.2) (if (decide ((x.2.2.1 * x.2.2.2) = A)) = true then (kc (some x) ()) else kc none ()))) [] K) = K (fbx D w h A) () := by
  have hS : (1000000 : Nat) ≤ SZ := by decide
  have la := all_len d
  rw [compO_filterMap (fun r : R4 => if decide (ar r = A) = true then some r else none) () _ [] (by simp; omega) (fun r mr kc => by
      have c := mem_allR.1 mr
      have := c.a1
      have := c.xa
      have := c.x0
      have := d.w8
      rw [ck_pos (mulOk_l (by omega) (by omega))]
      show _ = kc (if decide (r.2.2.1 * r.2.2.2 = A) = true then some r else none) ()
      split <;> rfl), List.nil_append]
  rfl
theorem fbx_min {D : List (List Int)} {A : Int} (m : IsMx D w h A) (n : A ≠ 0) : ∃ r, minB lt4 (fbx D w h A) = some r ∧ IsBx D w h A r := by
  have hne : fbx D w h A ≠ [] := fun e => by
    obtain ⟨r, c, q⟩ := m.at_ n
    have : r ∈ fbx D w h A := mem_fbx.2 ⟨c, q⟩
    rw [e] at this; cases this
  obtain ⟨r, e, mr, u⟩ := minB4 hne
  exact ⟨r, e, (mem_fbx.1 mr).1, (mem_fbx.1 mr).2, fun r' c' a' => u r' (mem_fbx.2 ⟨c', a'⟩)⟩
end
/-! ### offcuts and the law's own run -/
section
variable {w h : Nat}
def offB (least : Int) (t : List (List Int) × List R4) (kc : List (List Int) × List R4 → Option (List R4)) : Option (List R4) :=
  (m_offcut t.1).bind fun r278 =>
    if (decide (r278.1 < (max (1 : Int) least))) = true then (
      some t.2)
    else (
      r278.2.1.bind fun y286 =>
      ck (decide (List.length t.2 < SZ)) (
      r278.2.1.bind fun y288 =>
      ck (rgOk y288.2.1 (y288.2.1 + y288.2.2.2)) (forO (rangeL y288.2.1 (y288.2.1 + y288.2.2.2)) t.1 (fun q t kc => ck (rgOk y288.1 (y288.1 + y288.2.2.1)) (forO (rangeL y288.1 (y288.1 + y288.2.2.1)) t (fun p t' kc2 => (ixN (List.length t') q).bind fun n => (ixN (List.length (List.getD t' n [])) p).bind fun m => kc2 (List.set t' n (List.set (List.getD t' n []) m (1 : Int)))) fun t => kc t))
        fun t318 => kc (t318, t.2 ++ [y286]))))
def keptB (least : Int) (t : List (List Int) × List R4) (kc : List (List Int) × List R4 → Option (List R4)) : Option (List R4) :=
  (m__law_all t.1).bind fun rows =>
    compO rows () (fun x (t : Unit) kc => (
    ck (mulOk x.2.2.1 x.2.2.2) (kc (some (x.2.2.1 * x.2.2.2)) ()))) [] fun (ys : List Int) (_ : Unit) => (
    ck (decide (List.length [(0 : Int)] + List.length ys ≤ SZ)) ((maxI ([(0 : Int)] ++ ys)).bind fun A =>
      if (decide (A < (max (1 : Int) least))) = true then (
        some t.2)
      else (
        compO rows () (fun x (t : Unit) kc => (
          ck (mulOk x.2.2.1 x.2.2.2) (if (decide ((x.2.2.1 * x.2.2.2) = A)) = true then (kc (some x) ()) else kc none ()))) [] fun ys606 _ => (
          (minB lt4 ys606).bind fun y288 =>
          ck (decide (List.length t.2 < SZ)) (
          ck (rgOk y288.2.1 (y288.2.1 + y288.2.2.2)) (forO (rangeL y288.2.1 (y288.2.1 + y288.2.2.2)) t.1 (fun q t kc => ck (rgOk y288.1 (y288.1 + y288.2.2.1)) (forO (rangeL y288.1 (y288.1 + y288.2.2.1)) t (fun p t' kc2 => (ixN (List.length t') q).bind fun n => (ixN (List.length (List.getD t' n [])) p).bind fun m => kc2 (List.set t' n (List.set (List.getD t' n []) m (9 : Int)))) fun t => kc t))
            fun t318 => kc (t318, t.2 ++ [y288])))))))
theorem lock (least : Int) : ∀ (fu : Nat) (D E : List (List Int)) (found : List R4), POk D w h → POk E w h → SZr D E w h → zc D w h < fu → found.length + fu ≤ 1000 → ∃ r, whileO fu (D, found) (offB least) = some r ∧ whileO fu (E, found) (keptB least) = some r
  | 0, _, _, _, _, _, _, z, _ => absurd z (Nat.not_lt_zero _)
  | fu + 1, D, E, found, d, e, s, z, hf => by
    have hS : (1000000 : Nat) ≤ SZ := by decide
    show ∃ r, offB least (D, found) (fun t => whileO fu t (offB least)) = some r ∧ keptB least (E, found) (fun t => whileO fu t (keptB least)) = some r
    unfold offB keptB
    dsimp only
    obtain ⟨bs, k⟩ := bs_ex d
    obtain ⟨t, et, ot⟩ := offcut_ok k
    rw [et, Option.bind_some, all_ok e, Option.bind_some]
    obtain ⟨A, ⟨mA, _⟩, eA⟩ := most_ok (Ω := List R4) e
    rw [eA]
    have tA : t.1 = A := (s.mx ot.mx).uniq mA
    rw [tA]
    by_cases c : A < max (1 : Int) least
    · rw [decide_eq_true c, ite_t, ite_t]; exact ⟨found, rfl, rfl⟩
    · rw [decide_eq_false c, ite_f, ite_f]
      have nz : A ≠ 0 := by omega
      obtain ⟨r, er, br⟩ := ot.bx1 (by rw [tA]; exact nz)
      rw [er, Option.bind_some, Option.bind_some, fbx_ok e]
      obtain ⟨r', er', br'⟩ := fbx_min mA nz
      rw [tA] at br
      have rr : r' = r := br'.uniq (s.bx br)
      subst rr
      rw [er', Option.bind_some, ck_pos (decide_eq_true (by omega)), ck_pos (decide_eq_true (by omega))]
      obtain ⟨D', ⟨d', gD⟩, eD⟩ := fillP (Ω := List R4) d br.cl (v := 1) (by decide) (by decide)
      obtain ⟨E', ⟨e', gE⟩, eE⟩ := fillP (Ω := List R4) e br'.cl (v := 9) (by decide) (by decide)
      rw [eD, eE]
      exact lock least fu D' E' _ d' e' (fun o io => by rw [gD o io, gE o io, s o io]) (by have := zc_lt br.cl gD; omega) (by rw [List.length_append]; simp only [List.length_cons, List.length_nil]; omega)
theorem offcuts_ok {D : List (List Int)} (d : POk D w h) (least : Int) : ∃ r, m_offcuts 100 D least = some r ∧ m__law_kept 100 D least = some r := by
  obtain ⟨r, e1, e2⟩ := lock least 100 D D [] d d (fun _ _ => Iff.rfl) (by have := zc_le (D := D) d.w8 d.h8; omega) (by simp)
  have l : D.length ≤ 1000 := by have := d.rc.lh; have := d.h8; omega
  refine ⟨r, ?_, ?_⟩
  · unfold m_offcuts
    dsimp only
    rw [copyL l]
    exact e1
  · unfold m__law_kept
    dsimp only
    rw [copyL l]
    exact e2
/-! ### no fault -/
variable {D : List (List Int)} {bs : Nat → Int × R4}
theorem none_ok {A : Int} {bx : Option R4} {bars : List Int} (c0 : bx.isNone = decide (A = 0)) (c1 : rectB D w h A bx = false) (c2 : bars.length = h) (c3 : ∀ y : Nat, y < h → bars.getD y 0 ≤ A ∧ barV bs y ≤ bars.getD y 0) : faultR bs D w h A bx bars = .none := by
  unfold faultR
  rw [if_pos c0, c1, ite_f, if_pos c2, List.find?_eq_none.2 fun y my => by
    have my := mem_rng.1 my
    obtain ⟨n, rfl⟩ := Int.eq_ofNat_of_zero_le my.1
    have := c3 n (by omega)
    rw [Int.toNat_natCast, decide_eq_false (by omega)]
    exact Bool.false_ne_true]
  rfl
theorem told_none (k : BsF D w h bs) {t : Int × Option R4 × List Int} (o : OffT D w h t) : faultR bs D w h t.1 t.2.1 t.2.2 = .none := by
  refine none_ok ?_ ?_ o.len fun y hy => ?_
  · by_cases z : t.1 = 0
    · rw [o.bx0 z, decide_eq_true z]; rfl
    · obtain ⟨r, e, _⟩ := o.bx1 z
      rw [e, decide_eq_false z]; rfl
  · by_cases z : t.1 = 0
    · rw [o.bx0 z]; rfl
    · obtain ⟨r, e, b⟩ := o.bx1 z
      rw [e]
      show (!decide (Clr D w h r ∧ ar r = t.1)) = false
      rw [decide_eq_true ⟨b.cl, b.ar⟩]; rfl
  · have b := o.bar y hy
    have q := b.uniq ((k.ok hy).2.bar hy).1
    refine ⟨?_, ?_⟩
    · by_cases z : t.2.2.getD y 0 = 0
      · rw [z]; exact o.mx.nn
      · obtain ⟨r, c, _, e⟩ := b.at_ z
        rw [← e]; exact o.mx.up r c
    · unfold barV
      rw [Int.toNat_natCast, ← q]
      omega
theorem most_none (k : BsF D w h bs) {A : Int} (m : IsMx D w h A) {r : R4} (c : Clr D w h r) (e : ar r = A) : faultR bs D w h A (some r) (D.map fun _ => A) = .none := by
  refine none_ok ?_ ?_ (by rw [List.length_map, k.d.rc.lh]) fun y hy => ?_
  · have := (ar_bd k.d.w8 k.d.h8 c).1
    rw [decide_eq_false (by omega)]; rfl
  · show (!decide (Clr D w h r ∧ ar r = A)) = false
    rw [decide_eq_true ⟨c, e⟩]; rfl
  · have hy' : y < D.length := by rw [k.d.rc.lh]; exact hy
    have : (D.map fun _ => A).getD y 0 = A := by rw [List.getD_eq_getElem?_getD, List.getElem?_map, List.getElem?_eq_getElem hy']; rfl
    rw [this]
    refine ⟨Int.le_refl _, ?_⟩
    unfold barV
    rw [Int.toNat_natCast]
    have b := ((k.ok hy).2.bar hy).1
    by_cases z : (bs y).1 = 0
    · rw [z]; exact m.nn
    · obtain ⟨r', c', _, e'⟩ := b.at_ z
      rw [← e']; exact m.up r' c'
/-! ### the plate, and the law -/
theorem take_eq : m__law_take = takeM := rfl
theorem state_eq : m__law_state = stateM := rfl
theorem compO_run {α β S Ω : Type} (Inv : S → Prop) (Pe : β → Prop) {b : α → S → (Option β → S → Option Ω) → Option Ω} : ∀ (xs : List α) (s : S) (acc : List β), Inv s → (∀ y ∈ acc, Pe y) → acc.length + xs.length ≤ SZ →
    (∀ x ∈ xs, ∀ s, Inv s → ∃ y s', Pe y ∧ Inv s' ∧ ∀ kc : Option β → S → Option Ω, b x s kc = kc (some y) s') → ∃ ys s', ys.length = acc.length + xs.length ∧ (∀ y ∈ ys, Pe y) ∧ Inv s' ∧ ∀ k : List β → S → Option Ω, compO xs s b acc k = k ys s'
  | [], s, acc, h0, ha, _, _ => ⟨acc, s, rfl, ha, h0, fun _ => rfl⟩
  | x :: xs, s, acc, h0, ha, hl, hs => by
    have hl' : acc.length + 1 + xs.length ≤ SZ := by simpa [Nat.add_assoc, Nat.add_comm 1] using hl
    obtain ⟨y, s1, py, i1, e1⟩ := hs x (List.mem_cons_self ..) s h0
    obtain ⟨ys, s', l, p, i, e⟩ := compO_run Inv Pe xs s1 (acc ++ [y]) i1 (fun z m => by
      rcases List.mem_append.1 m with m | m
      · exact ha z m
      · simp at m; subst m; exact py) (by simpa using hl') fun z m => hs z (List.mem_cons_of_mem _ m)
    refine ⟨ys, s', by simp at l ⊢; omega, p, i, fun k => ?_⟩
    show b x s _ = _
    rw [e1]
    show ck _ _ = _
    rw [ck_pos (decide_eq_true (show acc.length < SZ by omega)), e]
theorem plate_ok {t : TSt} (ht : t.2 ≠ []) : ∃ o, m__law_plate t = some o ∧ (o.2.2 ≠ [] ∧ ∃ w h, POk o.1 w h) := by
  have hS : (1000000 : Nat) ≤ SZ := by decide
  unfold m__law_plate
  rw [take_eq]
  dsimp only
  obtain ⟨w0, t1, e1, a1, b1, ht⟩ := take_ok (m := 8) ht (by decide) (by decide)
  rw [e1, Option.bind_some]
  dsimp only
  obtain ⟨h0, t2, e2, a2, b2, ht⟩ := take_ok (m := 8) ht (by decide) (by decide)
  rw [e2, Option.bind_some]
  dsimp only
  obtain ⟨s0, t3, e3, a3, b3, ht⟩ := take_ok (m := 3) ht (by decide) (by decide)
  rw [e3, Option.bind_some]
  dsimp only
  obtain ⟨rare, er, r0, r1⟩ : ∃ y, atI ([(2 : Int), (4 : Int), (9 : Int)]) s0 = some y ∧ 1 ≤ y ∧ y ≤ 9 := by
    have : s0 = 0 ∨ s0 = 1 ∨ s0 = 2 := by omega
    rcases this with rfl | rfl | rfl
    · exact ⟨2, rfl, by decide, by decide⟩
    · exact ⟨4, rfl, by decide, by decide⟩
    · exact ⟨9, rfl, by decide, by decide⟩
  rw [er, Option.bind_some, ck_pos (rgOk_s (by omega) (by omega) (by omega) (by omega))]
  obtain ⟨D, t', lD, pD, it, eD⟩ := compO_run (Ω := List (List Int) × TSt) (fun t : TSt => t.2 ≠ []) (fun D : List Int => D.length = (1 + w0).toNat ∧ ∀ v ∈ D, 0 ≤ v ∧ v ≤ 9) (b := fun x399 (t398 : TSt) kc422 => (
    ck (rgOk 0 ((1 : Int) + w0)) (compO (rangeL 0 ((1 : Int) + w0)) t398 (fun x403 (t402 : TSt) kc418 => (
      (takeM t402 (3 : Int)).bind fun r408 =>
      (takeM r408.2 rare).bind fun r412 =>
      (atI ([(0 : Int), ((1 : Int) + r408.1)]) (if (decide (r412.1 = (0 : Int))) = true then (1 : Int) else 0)).bind fun y414 =>
      kc418 (some y414) r412.2)) [] fun (ys416 : List Int) (t417 : TSt) => (
      kc422 (some ys416) t417)))) (rangeL 0 (1 + h0)) t3 [] ht (fun _ m => nomatch m) (by rw [rng_len]; simp; omega) (fun x mx t ht => by
    obtain ⟨D, t', lD, pD, it, eD⟩ := compO_run (Ω := List (List Int) × TSt) (fun t : TSt => t.2 ≠ []) (fun v : Int => 0 ≤ v ∧ v ≤ 9) (b := fun x403 (t402 : TSt) kc418 => (
      (takeM t402 (3 : Int)).bind fun r408 =>
      (takeM r408.2 rare).bind fun r412 =>
      (atI ([(0 : Int), ((1 : Int) + r408.1)]) (if (decide (r412.1 = (0 : Int))) = true then (1 : Int) else 0)).bind fun y414 =>
      kc418 (some y414) r412.2)) (rangeL 0 (1 + w0)) t [] ht (fun _ m => nomatch m) (by rw [rng_len]; simp; omega) (fun x mx t ht => by
      obtain ⟨a, t1, ea, a1, a2, ht⟩ := take_ok (m := 3) ht (by decide) (by decide)
      obtain ⟨b, t2, eb, b1, b2, ht⟩ := take_ok (m := rare) ht (by omega) (by omega)
      obtain ⟨y, ey, y0, y1⟩ : ∃ y, atI ([(0 : Int), (1 : Int) + a]) (if (decide (b = (0 : Int))) = true then (1 : Int) else 0) = some y ∧ 0 ≤ y ∧ y ≤ 9 := by
        rw [ite_d]
        by_cases z : b = 0
        · rw [if_pos z]; exact ⟨1 + a, rfl, by omega, by omega⟩
        · rw [if_neg z]; exact ⟨0, rfl, by omega, by omega⟩
      refine ⟨y, t2, ⟨y0, y1⟩, ht, fun kc => ?_⟩
      rw [ea, Option.bind_some]
      dsimp only
      rw [eb, Option.bind_some]
      dsimp only
      rw [ey, Option.bind_some])
    refine ⟨D, t', ⟨by rw [lD, rng_len]; simp, pD⟩, it, fun kc => ?_⟩
    rw [ck_pos (rgOk_s (by omega) (by omega) (by omega) (by omega))]
    exact eD _)
  refine ⟨(D, t'), eD _, it, (1 + w0).toNat, (1 + h0).toNat, ⟨by rw [lD, rng_len]; simp, fun r m => (pD r m).1⟩, by omega, by omega, by omega, by omega, fun r m => (pD r m).2⟩
theorem plate_sh (d : POk D w h) : Sh (1 + 1) (8 * (8 * 1 + 1)) ((eL (eL eI)).enc D) :=
  shL (fun d' md => by
    obtain ⟨r, mr, rfl⟩ := List.mem_map.1 md
    exact shInts ⟨by rw [d.rc.lw r mr]; exact d.w8, fun x mx => by have := d.nn r mr x mx; omega⟩) (by rw [List.length_map, d.rc.lh]; exact d.h8)
theorem law_true (ns : List Int) (hn : ns.length ≤ 63) : m_law 100 ns = some true := by
  have hS : (1000000 : Nat) ≤ SZ := by decide
  obtain ⟨t, et, ht⟩ := state_ok hn
  unfold m_law
  rw [state_eq, take_eq]
  refine bind_wp et ?_
  dsimp only
  obtain ⟨o, eo, ht, w, h, d⟩ := plate_ok ht
  refine bind_wp eo ?_
  obtain ⟨D, t⟩ := o
  dsimp only at ht d ⊢
  have w8 := d.w8
  have h8 := d.h8
  have h1 := d.h1
  have esr := (plate_sh d).repr
  refine bind_wp esr ?_
  obtain ⟨bs, k⟩ := bs_ex d
  obtain ⟨⟨A, bx, bars⟩, eT, oT⟩ := offcut_ok k
  refine bind_wp eT ?_
  refine bind_wp (all_ok d) ?_
  have tn := told_none k oT
  obtain ⟨mx, bx0, bx1, len, bar⟩ := oT
  dsimp only at mx bx0 bx1 len bar tn ⊢
  obtain ⟨M, ⟨mM, M64⟩, eM⟩ := most_ok (Ω := Bool) d
  rw [eM]
  have e := mx.uniq mM
  subst e
  have tst : (if (!true) = true then some true else if (!decide (A = A)) = true then some true else ((m__law_fault D (A, bx, bars)).bind fun r685 =>
      if (!isNone (eD.enc r685)) = true then some true else ((m_offcut_fault D (A, bx, bars)).bind fun r689 =>
      some (!isNone (eD.enc r689))))) = some false := by
    rw [decide_eq_true rfl, ite_nt, ite_nt, lfault_ok k, Option.bind_some, tn, pfault_ok k, tn]
    rfl
  refine bind_wp tst ?_
  rw [ite_f]
  refine take_wp ht (by decide) (by decide) fun least t l0 l1 ht => ?_
  dsimp only
  obtain ⟨ro, ero, erk⟩ := offcuts_ok d least
  have tst2 : ((m_offcuts 100 D least).bind fun r698 =>
      (m__law_kept 100 D least).bind fun r702 =>
      if (!decide (r698 = r702)) = true then some true else ((reprO ((eL (eL eI)).enc D)).bind fun y704 =>
      some (!decide (y704 = ((eL (eL eI)).enc D).shown)))) = some false := by
    rw [ero, Option.bind_some, erk, Option.bind_some, decide_eq_true rfl, ite_nt, esr, Option.bind_some, decide_eq_true rfl]; rfl
  refine bind_wp tst2 ?_
  rw [ite_f, fbx_ok d]
  have lD : D.length = h := d.rc.lh
  refine (forO_skip _ fun r mr kc => ?_).trans ?_
  · obtain ⟨c, q⟩ := mem_fbx.1 mr
    rw [compO_map (fun _ => A) () _ [] (by simp; omega) (fun _ _ _ => rfl), List.nil_append, pfault_ok k, Option.bind_some, most_none k mx c q]
    rfl
  rw [ck_pos (rgOk_s (by omega) (by omega) (by omega) (by omega))]
  have fin : ∀ (j : TSt) (A' : Int) (bx' : Option R4) (bars' : List Int) (kc : TSt → Option Bool), (∀ t : TSt, t.2 ≠ [] → kc t = some true) → j.2 ≠ [] → ((m_offcut_fault D (A', bx', bars')).bind fun r862 =>
      (m__law_fault D (A', bx', bars')).bind fun r869 =>
      ck (SeqAt.shaped (eD.enc r862) && SeqAt.shaped (eD.enc r869)) (if (!PyData.eqv (eD.enc r862) (eD.enc r869)) = true then (
        some false)
      else (
        kc j))) = some true := fun j A' bx' bars' kc hk hj => by
    have sh : SeqAt.shaped (faultR bs D w h A' bx' bars') = true := faultR_sh
    rw [pfault_ok k, Option.bind_some, lfault_ok k, Option.bind_some]
    show ck (SeqAt.shaped (faultR bs D w h A' bx' bars') && SeqAt.shaped (faultR bs D w h A' bx' bars')) (if (!PyData.eqv (faultR bs D w h A' bx' bars') (faultR bs D w h A' bx' bars')) = true then some false else kc j) = some true
    rw [sh, shaped_eqv sh, ite_nt]
    exact hk j hj
  have step : ∀ v : Int, v = 0 ∨ v = 1 → ∃ y, atI ([(1 : Int), ((0 : Int) - (1 : Int))]) v = some y := fun v hv => by
    rcases hv with rfl | rfl
    · exact ⟨_, rfl⟩
    · exact ⟨_, rfl⟩
  refine forO_wp (fun t : TSt => t.2 ≠ []) ht (fun t x mx' ht kc hk => ?_) fun t ht => ?_
  · refine take_wp ht (by decide) (by decide) fun kind t k0 k1 ht => ?_
    dsimp only
    refine take_wp ht (by omega) (by omega) fun y t y0 y1 ht => ?_
    dsimp only
    rw [ite_d]
    by_cases c0 : kind = 0
    · rw [if_pos c0]
      refine take_wp ht (by decide) (by decide) fun v t v0 v1 ht => ?_
      obtain ⟨y, ey⟩ := step v (by omega)
      refine bind_wp ey ?_
      exact fin _ _ _ _ _ hk ht
    rw [if_neg c0, ite_d]
    by_cases c1 : kind = 1
    · rw [if_pos c1]
      have g : ∀ (z : R4) (j : TSt), j.2 ≠ [] → (0 ≤ z.2.2.1 ∧ z.2.2.1 ≤ 8) → ((takeM j (2 : Int)).bind fun r795 =>
          if (decide (r795.1 = (0 : Int))) = true then ((some z).bind fun y798 =>
          (some z).bind fun y800 =>
          ck (mulOk y798.2.2.1 y800.2.2.2) ((m_offcut_fault D (y798.2.2.1 * y800.2.2.2, some z, bars)).bind fun r862 =>
      (m__law_fault D (y798.2.2.1 * y800.2.2.2, some z, bars)).bind fun r869 =>
      ck (SeqAt.shaped (eD.enc r862) && SeqAt.shaped (eD.enc r869)) (if (!PyData.eqv (eD.enc r862) (eD.enc r869)) = true then (
        some false)
      else (
        kc r795.2)))) else ((m_offcut_fault D (A, some z, bars)).bind fun r862 =>
      (m__law_fault D (A, some z, bars)).bind fun r869 =>
      ck (SeqAt.shaped (eD.enc r862) && SeqAt.shaped (eD.enc r869)) (if (!PyData.eqv (eD.enc r862) (eD.enc r869)) = true then (
        some false)
      else (
        kc r795.2)))) = some true := fun z j hj hz => by
        refine take_wp hj (by decide) (by decide) fun v t v0 v1 ht => ?_
        dsimp only
        rw [ite_d]
        refine ite_wp (fun _ => ?_) fun _ => ?_
        · rw [Option.bind_some, Option.bind_some, ck_pos (mulOk_l (by omega) (by omega))]
          exact fin _ _ _ _ _ hk ht
        · exact fin _ _ _ _ _ hk ht
      rw [ite_d]
      refine ite_wp (fun c => ?_) fun c => ?_
      · have la := all_len d
        refine take_wp ht c (by omega) fun v t v0 v1 ht => ?_
        dsimp only
        obtain ⟨i, hi, _, ei⟩ := atI_pos v0 v1
        refine bind_wp ei ?_
        have cl := mem_allR.1 (List.getElem_mem hi)
        exact g _ _ ht ⟨by have := cl.a1; omega, by have := cl.xa; have := cl.x0; omega⟩
      · exact g _ _ ht ⟨by decide, by decide⟩
    rw [if_neg c1, ite_d]
    by_cases c2 : kind = 2
    · rw [if_pos c2]
      cases bx with
      | none => exact fin _ _ _ _ _ hk ht
      | some z =>
        show ((takeM t (3 : Int)).bind _) = _
        refine take_wp ht (by decide) (by decide) fun v t v0 v1 ht => ?_
        dsimp only
        rw [ite_d]
        refine ite_wp (fun _ => ?_) fun _ => ?_
        · exact fin _ _ _ _ _ hk ht
        · exact fin _ _ _ _ _ hk ht
    rw [if_neg c2, ite_d]
    by_cases c3 : kind < 5
    · rw [if_pos c3]
      obtain ⟨i, hi, _, ei⟩ := atI_pos y0 y1
      refine bind_wp ei ?_
      refine take_wp ht (by decide) (by decide) fun v t v0 v1 ht => ?_
      dsimp only
      obtain ⟨y', ey⟩ := step v (by omega)
      refine bind_wp ey ?_
      obtain ⟨n, rfl⟩ := Int.eq_ofNat_of_zero_le y0
      refine bind_wp (ixN_nat (by omega)) ?_
      exact fin _ _ _ _ _ hk ht
    · rw [if_neg c3]
      exact fin _ _ _ _ _ hk ht
  · refine bind_wp esr ?_
    rw [decide_eq_true rfl]
end

/-- what the law's call promises -/
def spLaw (K : Fg) : Sp := fun vs H Q _ => ∃ (a : Addr) (ns : List Int), vs = [.ref a] ∧ SqL K H a (ns.map V.int) ∧ ns.length ≤ 63 ∧ ∀ H', Q (.bl true) H'
theorem ok_end {P : Program} {w : World} {K : Fg} {mg : Str → Option Value} {base : Heap} (fa : Fa K mg) : FnG P w K mg base 4 fa.f_law fa.fd_law ["script"] (spLaw K) :=
  (ok_law fa 100).weak fun vs H Q E h => by
    obtain ⟨a, ns, rfl, hS, hlen, q⟩ := h
    exact law_sp hS (law_true ns hlen) q
theorem all_mk {l : PySem.W.OpenLaw} {w : World} {K : Fg} {h : Heap} {mg : Str → Option Value} {fz f0 f1 f2 f3 f4 f5 f6 f7 f8 f9 f10 f11 f12 f13 : Addr} (X : K.In h) (G : h.Ns mainGlobals mg) (hfa : mg "law" = some (.ref fz))
    {od0 an0 : Option Addr} {sl0 : Array (Option Value)} {oc0 kV0 dc0 pm0 cd0 ct0 : Value}
    (a0 : PySem.W.nsIn K mainGlobals "free_above" = some (some (.ref f0))) (l0 : K.lookup f0 = some ⟨oc0, od0, .func (PySem.W.fnOf "free_above" "free_above" (defArgs s_free_above) (defBody s_free_above) (defScope s_free_above) .none kV0 dc0 pm0 an0 cd0 ct0), sl0⟩) (c0 : PySem.W.codeIn K cd0 "free_above" = true) (k0 : PySem.W.keepIn K (.ref f0) = true)
    {od1 an1 : Option Addr} {sl1 : Array (Option Value)} {oc1 kV1 dc1 pm1 cd1 ct1 : Value}
    (a1 : PySem.W.nsIn K mainGlobals "best_in" = some (some (.ref f1))) (l1 : K.lookup f1 = some ⟨oc1, od1, .func (PySem.W.fnOf "best_in" "best_in" (defArgs s_best_in) (defBody s_best_in) (defScope s_best_in) .none kV1 dc1 pm1 an1 cd1 ct1), sl1⟩) (c1 : PySem.W.codeIn K cd1 "best_in" = true) (k1 : PySem.W.keepIn K (.ref f1) = true)
    {od2 an2 : Option Addr} {sl2 : Array (Option Value)} {oc2 kV2 dc2 pm2 cd2 ct2 : Value}
    (a2 : PySem.W.nsIn K mainGlobals "offcut" = some (some (.ref f2))) (l2 : K.lookup f2 = some ⟨oc2, od2, .func (PySem.W.fnOf "offcut" "offcut" (defArgs s_offcut) (defBody s_offcut) (defScope s_offcut) .none kV2 dc2 pm2 an2 cd2 ct2), sl2⟩) (c2 : PySem.W.codeIn K cd2 "offcut" = true) (k2 : PySem.W.keepIn K (.ref f2) = true)
    {od3 an3 : Option Addr} {sl3 : Array (Option Value)} {oc3 kV3 dc3 pm3 cd3 ct3 : Value}
    (a3 : PySem.W.nsIn K mainGlobals "clear" = some (some (.ref f3))) (l3 : K.lookup f3 = some ⟨oc3, od3, .func (PySem.W.fnOf "clear" "clear" (defArgs s_clear) (defBody s_clear) (defScope s_clear) .none kV3 dc3 pm3 an3 cd3 ct3), sl3⟩) (c3 : PySem.W.codeIn K cd3 "clear" = true) (k3 : PySem.W.keepIn K (.ref f3) = true)
    {od4 an4 : Option Addr} {sl4 : Array (Option Value)} {oc4 kV4 dc4 pm4 cd4 ct4 : Value}
    (a4 : PySem.W.nsIn K mainGlobals "offcut_fault" = some (some (.ref f4))) (l4 : K.lookup f4 = some ⟨oc4, od4, .func (PySem.W.fnOf "offcut_fault" "offcut_fault" (defArgs s_offcut_fault) (defBody s_offcut_fault) (defScope s_offcut_fault) .none kV4 dc4 pm4 an4 cd4 ct4), sl4⟩) (c4 : PySem.W.codeIn K cd4 "offcut_fault" = true) (k4 : PySem.W.keepIn K (.ref f4) = true)
    {od5 an5 : Option Addr} {sl5 : Array (Option Value)} {oc5 kV5 dc5 pm5 cd5 ct5 : Value}
    (a5 : PySem.W.nsIn K mainGlobals "offcuts" = some (some (.ref f5))) (l5 : K.lookup f5 = some ⟨oc5, od5, .func (PySem.W.fnOf "offcuts" "offcuts" (defArgs s_offcuts) (defBody s_offcuts) (defScope s_offcuts) .none kV5 dc5 pm5 an5 cd5 ct5), sl5⟩) (c5 : PySem.W.codeIn K cd5 "offcuts" = true) (k5 : PySem.W.keepIn K (.ref f5) = true)
    {od6 an6 : Option Addr} {sl6 : Array (Option Value)} {oc6 kV6 dc6 pm6 cd6 ct6 : Value}
    (a6 : PySem.W.nsIn K mainGlobals "_law_state" = some (some (.ref f6))) (l6 : K.lookup f6 = some ⟨oc6, od6, .func (PySem.W.fnOf "_law_state" "_law_state" (defArgs s__law_state) (defBody s__law_state) (defScope s__law_state) .none kV6 dc6 pm6 an6 cd6 ct6), sl6⟩) (c6 : PySem.W.codeIn K cd6 "_law_state" = true) (k6 : PySem.W.keepIn K (.ref f6) = true)
    {od7 an7 : Option Addr} {sl7 : Array (Option Value)} {oc7 kV7 dc7 pm7 cd7 ct7 : Value}
    (a7 : PySem.W.nsIn K mainGlobals "_law_take" = some (some (.ref f7))) (l7 : K.lookup f7 = some ⟨oc7, od7, .func (PySem.W.fnOf "_law_take" "_law_take" (defArgs s__law_take) (defBody s__law_take) (defScope s__law_take) .none kV7 dc7 pm7 an7 cd7 ct7), sl7⟩) (c7 : PySem.W.codeIn K cd7 "_law_take" = true) (k7 : PySem.W.keepIn K (.ref f7) = true)
    {od8 an8 : Option Addr} {sl8 : Array (Option Value)} {oc8 kV8 dc8 pm8 cd8 ct8 : Value}
    (a8 : PySem.W.nsIn K mainGlobals "_law_plate" = some (some (.ref f8))) (l8 : K.lookup f8 = some ⟨oc8, od8, .func (PySem.W.fnOf "_law_plate" "_law_plate" (defArgs s__law_plate) (defBody s__law_plate) (defScope s__law_plate) .none kV8 dc8 pm8 an8 cd8 ct8), sl8⟩) (c8 : PySem.W.codeIn K cd8 "_law_plate" = true) (k8 : PySem.W.keepIn K (.ref f8) = true)
    {od9 an9 : Option Addr} {sl9 : Array (Option Value)} {oc9 kV9 dc9 pm9 cd9 ct9 : Value}
    (a9 : PySem.W.nsIn K mainGlobals "_law_all" = some (some (.ref f9))) (l9 : K.lookup f9 = some ⟨oc9, od9, .func (PySem.W.fnOf "_law_all" "_law_all" (defArgs s__law_all) (defBody s__law_all) (defScope s__law_all) .none kV9 dc9 pm9 an9 cd9 ct9), sl9⟩) (c9 : PySem.W.codeIn K cd9 "_law_all" = true) (k9 : PySem.W.keepIn K (.ref f9) = true)
    {od10 an10 : Option Addr} {sl10 : Array (Option Value)} {oc10 kV10 dc10 pm10 cd10 ct10 : Value}
    (a10 : PySem.W.nsIn K mainGlobals "_law_bar" = some (some (.ref f10))) (l10 : K.lookup f10 = some ⟨oc10, od10, .func (PySem.W.fnOf "_law_bar" "_law_bar" (defArgs s__law_bar) (defBody s__law_bar) (defScope s__law_bar) .none kV10 dc10 pm10 an10 cd10 ct10), sl10⟩) (c10 : PySem.W.codeIn K cd10 "_law_bar" = true) (k10 : PySem.W.keepIn K (.ref f10) = true)
    {od11 an11 : Option Addr} {sl11 : Array (Option Value)} {oc11 kV11 dc11 pm11 cd11 ct11 : Value}
    (a11 : PySem.W.nsIn K mainGlobals "_law_fault" = some (some (.ref f11))) (l11 : K.lookup f11 = some ⟨oc11, od11, .func (PySem.W.fnOf "_law_fault" "_law_fault" (defArgs s__law_fault) (defBody s__law_fault) (defScope s__law_fault) .none kV11 dc11 pm11 an11 cd11 ct11), sl11⟩) (c11 : PySem.W.codeIn K cd11 "_law_fault" = true) (k11 : PySem.W.keepIn K (.ref f11) = true)
    {od12 an12 : Option Addr} {sl12 : Array (Option Value)} {oc12 kV12 dc12 pm12 cd12 ct12 : Value}
    (a12 : PySem.W.nsIn K mainGlobals "_law_kept" = some (some (.ref f12))) (l12 : K.lookup f12 = some ⟨oc12, od12, .func (PySem.W.fnOf "_law_kept" "_law_kept" (defArgs s__law_kept) (defBody s__law_kept) (defScope s__law_kept) .none kV12 dc12 pm12 an12 cd12 ct12), sl12⟩) (c12 : PySem.W.codeIn K cd12 "_law_kept" = true) (k12 : PySem.W.keepIn K (.ref f12) = true)
    {od13 an13 : Option Addr} {sl13 : Array (Option Value)} {oc13 kV13 dc13 pm13 cd13 ct13 : Value}
    (a13 : PySem.W.nsIn K mainGlobals "law" = some (some (.ref f13))) (l13 : K.lookup f13 = some ⟨oc13, od13, .func (PySem.W.fnOf "law" "law" (defArgs s_law) (defBody s_law) (defScope s_law) .none kV13 dc13 pm13 an13 cd13 ct13), sl13⟩) (c13 : PySem.W.codeIn K cd13 "law" = true) (k13 : PySem.W.keepIn K (.ref f13) = true)
    (z_abs : PySem.W.nsIn K mainGlobals "abs" = some none)
    (z_all : PySem.W.nsIn K mainGlobals "all" = some none)
    (z_enumerate : PySem.W.nsIn K mainGlobals "enumerate" = some none)
    (z_int : PySem.W.nsIn K mainGlobals "int" = some none)
    (z_isinstance : PySem.W.nsIn K mainGlobals "isinstance" = some none)
    (z_len : PySem.W.nsIn K mainGlobals "len" = some none)
    (z_list : PySem.W.nsIn K mainGlobals "list" = some none)
    (z_max : PySem.W.nsIn K mainGlobals "max" = some none)
    (z_min : PySem.W.nsIn K mainGlobals "min" = some none)
    (z_range : PySem.W.nsIn K mainGlobals "range" = some none)
    (z_repr : PySem.W.nsIn K mainGlobals "repr" = some none)
    (z_tuple : PySem.W.nsIn K mainGlobals "tuple" = some none) :
    ∃ fd : FuncData, (∀ (s : Shared) (v : Value), BindsTo s fd ⟨[v], []⟩ [("script", v)]) ∧ ∀ base : Heap, K.In base → base.Ns mainGlobals mg → FnG l.prog w K mg base 4 fz fd ["script"] (spLaw K) := by
  have e := hfa.symm.trans (PySem.W.mg_of X G a13)
  cases e
  exact ⟨PySem.W.fnOf "law" "law" (defArgs s_law) (defBody s_law) (defScope s_law) .none kV13 dc13 pm13 an13 cd13 ct13, fun s v => .of_eq rfl, fun base _ _ => ok_end (fa := { f_free_above := f0, fd_free_above := PySem.W.fnOf "free_above" "free_above" (defArgs s_free_above) (defBody s_free_above) (defScope s_free_above) .none kV0 dc0 pm0 an0 cd0 ct0, F_free_above := fun_mk (st := s_free_above) l0 c0 k0, g_free_above := PySem.W.mg_of X G a0, b_free_above := (fun_mk (st := s_free_above) l0 c0 k0).binds fun _ _ _ _ _ _ us hl => match us, hl with | [_], _ => rfl, f_best_in := f1, fd_best_in := PySem.W.fnOf "best_in" "best_in" (defArgs s_best_in) (defBody s_best_in) (defScope s_best_in) .none kV1 dc1 pm1 an1 cd1 ct1, F_best_in := fun_mk (st := s_best_in) l1 c1 k1, g_best_in := PySem.W.mg_of X G a1, b_best_in := (fun_mk (st := s_best_in) l1 c1 k1).binds fun _ _ _ _ _ _ us hl => match us, hl with | [_, _], _ => rfl, f_offcut := f2, fd_offcut := PySem.W.fnOf "offcut" "offcut" (defArgs s_offcut) (defBody s_offcut) (defScope s_offcut) .none kV2 dc2 pm2 an2 cd2 ct2, F_offcut := fun_mk (st := s_offcut) l2 c2 k2, g_offcut := PySem.W.mg_of X G a2, b_offcut := (fun_mk (st := s_offcut) l2 c2 k2).binds fun _ _ _ _ _ _ us hl => match us, hl with | [_], _ => rfl, f_clear := f3, fd_clear := PySem.W.fnOf "clear" "clear" (defArgs s_clear) (defBody s_clear) (defScope s_clear) .none kV3 dc3 pm3 an3 cd3 ct3, F_clear := fun_mk (st := s_clear) l3 c3 k3, g_clear := PySem.W.mg_of X G a3, b_clear := (fun_mk (st := s_clear) l3 c3 k3).binds fun _ _ _ _ _ _ us hl => match us, hl with | [_, _], _ => rfl, f_offcut_fault := f4, fd_offcut_fault := PySem.W.fnOf "offcut_fault" "offcut_fault" (defArgs s_offcut_fault) (defBody s_offcut_fault) (defScope s_offcut_fault) .none kV4 dc4 pm4 an4 cd4 ct4, F_offcut_fault := fun_mk (st := s_offcut_fault) l4 c4 k4, g_offcut_fault := PySem.W.mg_of X G a4, b_offcut_fault := (fun_mk (st := s_offcut_fault) l4 c4 k4).binds fun _ _ _ _ _ _ us hl => match us, hl with | [_, _], _ => rfl, f_offcuts := f5, fd_offcuts := PySem.W.fnOf "offcuts" "offcuts" (defArgs s_offcuts) (defBody s_offcuts) (defScope s_offcuts) .none kV5 dc5 pm5 an5 cd5 ct5, F_offcuts := fun_mk (st := s_offcuts) l5 c5 k5, g_offcuts := PySem.W.mg_of X G a5, b_offcuts := (fun_mk (st := s_offcuts) l5 c5 k5).binds fun _ _ _ _ _ _ us hl => match us, hl with | [_, _], _ => rfl, f__law_state := f6, fd__law_state := PySem.W.fnOf "_law_state" "_law_state" (defArgs s__law_state) (defBody s__law_state) (defScope s__law_state) .none kV6 dc6 pm6 an6 cd6 ct6, F__law_state := fun_mk (st := s__law_state) l6 c6 k6, g__law_state := PySem.W.mg_of X G a6, b__law_state := (fun_mk (st := s__law_state) l6 c6 k6).binds fun _ _ _ _ _ _ us hl => match us, hl with | [_], _ => rfl, f__law_take := f7, fd__law_take := PySem.W.fnOf "_law_take" "_law_take" (defArgs s__law_take) (defBody s__law_take) (defScope s__law_take) .none kV7 dc7 pm7 an7 cd7 ct7, F__law_take := fun_mk (st := s__law_take) l7 c7 k7, g__law_take := PySem.W.mg_of X G a7, b__law_take := (fun_mk (st := s__law_take) l7 c7 k7).binds fun _ _ _ _ _ _ us hl => match us, hl with | [_, _], _ => rfl, f__law_plate := f8, fd__law_plate := PySem.W.fnOf "_law_plate" "_law_plate" (defArgs s__law_plate) (defBody s__law_plate) (defScope s__law_plate) .none kV8 dc8 pm8 an8 cd8 ct8, F__law_plate := fun_mk (st := s__law_plate) l8 c8 k8, g__law_plate := PySem.W.mg_of X G a8, b__law_plate := (fun_mk (st := s__law_plate) l8 c8 k8).binds fun _ _ _ _ _ _ us hl => match us, hl with | [_], _ => rfl, f__law_all := f9, fd__law_all := PySem.W.fnOf "_law_all" "_law_all" (defArgs s__law_all) (defBody s__law_all) (defScope s__law_all) .none kV9 dc9 pm9 an9 cd9 ct9, F__law_all := fun_mk (st := s__law_all) l9 c9 k9, g__law_all := PySem.W.mg_of X G a9, b__law_all := (fun_mk (st := s__law_all) l9 c9 k9).binds fun _ _ _ _ _ _ us hl => match us, hl with | [_], _ => rfl, f__law_bar := f10, fd__law_bar := PySem.W.fnOf "_law_bar" "_law_bar" (defArgs s__law_bar) (defBody s__law_bar) (defScope s__law_bar) .none kV10 dc10 pm10 an10 cd10 ct10, F__law_bar := fun_mk (st := s__law_bar) l10 c10 k10, g__law_bar := PySem.W.mg_of X G a10, b__law_bar := (fun_mk (st := s__law_bar) l10 c10 k10).binds fun _ _ _ _ _ _ us hl => match us, hl with | [_, _], _ => rfl, f__law_fault := f11, fd__law_fault := PySem.W.fnOf "_law_fault" "_law_fault" (defArgs s__law_fault) (defBody s__law_fault) (defScope s__law_fault) .none kV11 dc11 pm11 an11 cd11 ct11, F__law_fault := fun_mk (st := s__law_fault) l11 c11 k11, g__law_fault := PySem.W.mg_of X G a11, b__law_fault := (fun_mk (st := s__law_fault) l11 c11 k11).binds fun _ _ _ _ _ _ us hl => match us, hl with | [_, _], _ => rfl, f__law_kept := f12, fd__law_kept := PySem.W.fnOf "_law_kept" "_law_kept" (defArgs s__law_kept) (defBody s__law_kept) (defScope s__law_kept) .none kV12 dc12 pm12 an12 cd12 ct12, F__law_kept := fun_mk (st := s__law_kept) l12 c12 k12, g__law_kept := PySem.W.mg_of X G a12, b__law_kept := (fun_mk (st := s__law_kept) l12 c12 k12).binds fun _ _ _ _ _ _ us hl => match us, hl with | [_, _], _ => rfl, f_law := fz, fd_law := PySem.W.fnOf "law" "law" (defArgs s_law) (defBody s_law) (defScope s_law) .none kV13 dc13 pm13 an13 cd13 ct13, F_law := fun_mk (st := s_law) l13 c13 k13, g_law := PySem.W.mg_of X G a13, b_law := (fun_mk (st := s_law) l13 c13 k13).binds fun _ _ _ _ _ _ us hl => match us, hl with | [_], _ => rfl, z_abs := PySem.W.mg_none_of X G z_abs, z_all := PySem.W.mg_none_of X G z_all, z_enumerate := PySem.W.mg_none_of X G z_enumerate, z_int := PySem.W.mg_none_of X G z_int, z_isinstance := PySem.W.mg_none_of X G z_isinstance, z_len := PySem.W.mg_none_of X G z_len, z_list := PySem.W.mg_none_of X G z_list, z_max := PySem.W.mg_none_of X G z_max, z_min := PySem.W.mg_none_of X G z_min, z_range := PySem.W.mg_none_of X G z_range, z_repr := PySem.W.mg_none_of X G z_repr, z_tuple := PySem.W.mg_none_of X G z_tuple })⟩
end My
open PySem PySem.W PyProof.Rows
set_option maxHeartbeats 0 in
theorem PySem.Challenge.cw_cutwright_k70_whole_offcuts_holds : PySem.Challenge.rw_cutwright_k70_whole_offcuts.Holds := by
  w_on; o_law; k_head; (case hw => w_witness2)
  k_fill
  refine Z.walkG (l := PySem.Challenge.rw_cutwright_k70_whole_offcuts) (n := 63) (k := 4) (x := "script") (sp := fun w => My.spLaw _) rfl (by decide) rfl ⟨rfl, by decide, by decide⟩ (fun w h Y => PySem.W.kIn_of Y) ?F (fun _ _ a ns hl _ hS => ⟨a, ns, rfl, hS, hl, fun _ => rfl⟩)
  case F =>
    intro w mg fa h KX G hmg
    refine' My.all_mk KX G hmg ?a0 ?l0 ?c0 ?k0 ?a1 ?l1 ?c1 ?k1 ?a2 ?l2 ?c2 ?k2 ?a3 ?l3 ?c3 ?k3 ?a4 ?l4 ?c4 ?k4 ?a5 ?l5 ?c5 ?k5 ?a6 ?l6 ?c6 ?k6 ?a7 ?l7 ?c7 ?k7 ?a8 ?l8 ?c8 ?k8 ?a9 ?l9 ?c9 ?k9 ?a10 ?l10 ?c10 ?k10 ?a11 ?l11 ?c11 ?k11 ?a12 ?l12 ?c12 ?k12 ?a13 ?l13 ?c13 ?k13 ?z_abs ?z_all ?z_enumerate ?z_int ?z_isinstance ?z_len ?z_list ?z_max ?z_min ?z_range ?z_repr ?z_tuple
    (case a0 => k_is)
    (case l0 => k_is)
    (case c0 => k_is)
    (case k0 => k_is)
    (case a1 => k_is)
    (case l1 => k_is)
    (case c1 => k_is)
    (case k1 => k_is)
    (case a2 => k_is)
    (case l2 => k_is)
    (case c2 => k_is)
    (case k2 => k_is)
    (case a3 => k_is)
    (case l3 => k_is)
    (case c3 => k_is)
    (case k3 => k_is)
    (case a4 => k_is)
    (case l4 => k_is)
    (case c4 => k_is)
    (case k4 => k_is)
    (case a5 => k_is)
    (case l5 => k_is)
    (case c5 => k_is)
    (case k5 => k_is)
    (case a6 => k_is)
    (case l6 => k_is)
    (case c6 => k_is)
    (case k6 => k_is)
    (case a7 => k_is)
    (case l7 => k_is)
    (case c7 => k_is)
    (case k7 => k_is)
    (case a8 => k_is)
    (case l8 => k_is)
    (case c8 => k_is)
    (case k8 => k_is)
    (case a9 => k_is)
    (case l9 => k_is)
    (case c9 => k_is)
    (case k9 => k_is)
    (case a10 => k_is)
    (case l10 => k_is)
    (case c10 => k_is)
    (case k10 => k_is)
    (case a11 => k_is)
    (case l11 => k_is)
    (case c11 => k_is)
    (case k11 => k_is)
    (case a12 => k_is)
    (case l12 => k_is)
    (case c12 => k_is)
    (case k12 => k_is)
    (case a13 => k_is)
    (case l13 => k_is)
    (case c13 => k_is)
    (case k13 => k_is)
    (case z_abs => k_is)
    (case z_all => k_is)
    (case z_enumerate => k_is)
    (case z_int => k_is)
    (case z_isinstance => k_is)
    (case z_len => k_is)
    (case z_list => k_is)
    (case z_max => k_is)
    (case z_min => k_is)
    (case z_range => k_is)
    (case z_repr => k_is)
    (case z_tuple => k_is)

