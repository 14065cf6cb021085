import PyProof.Rows.All
import HandS.ForMost
import HandS.Wide
import KE.SortData
import KE.DataMinMax
import HandS.IsInst
import PyProof.ReprRoads
import HandS.Deep
import PyProof.ReprBulk
import PySem.Challenge.RW_cutwright_k31_whole_sweeps
set_option Elab.async false
set_option linter.all false
set_option maxRecDepth 100000
set_option Elab.async false
set_option linter.all false
set_option maxRecDepth 100000
namespace Z
open PySem PySem.Spec PyProof.Rows L2

abbrev Fg := PySem.W.Frag
def keyD : Key → PyData
  | .inl i => .int i
  | .inr s => .str s

mutual
inductive Rep (K : Fg) (F : Hp) : V → PyData → Prop
  | non : Rep K F .non .none
  | bl (b : Bool) : Rep K F (.bl b) (.bool b)
  | int (i : Int) : Rep K F (.int i) (.int i)
  | str (x : Str) : Rep K F (.str x) (.str x)
  | lst {a : Addr} {xs : List V} {ds : List PyData} : F a = some (.lst xs) → RepAll K F xs ds → Rep K F (.ref a) (.list ds)
  | tup {a : Addr} {xs : List V} {ds : List PyData} : SqT K F a xs → RepAll K F xs ds → Rep K F (.ref a) (.tuple ds)
  | dK {a : Addr} {kvs : List (Key × V)} {ds : List PyData} : Rd F a (.dK kvs) → RepAll K F (kvs.map (·.2)) ds → Rep K F (.ref a) (.dict ((kvs.map fun p => keyD p.1).zip ds))
  | dT {a : Addr} {kvs : List (List Key × V)} {ds : List PyData} : Rd F a (.dT kvs) → RepAll K F (kvs.map (·.2)) ds → Rep K F (.ref a) (.dict ((kvs.map fun p => PyData.tuple (p.1.map keyD)).zip ds))
inductive RepAll (K : Fg) (F : Hp) : List V → List PyData → Prop
  | nil : RepAll K F [] []
  | cons {v : V} {vs : List V} {d : PyData} {ds : List PyData} : Rep K F v d → RepAll K F vs ds → RepAll K F (v :: vs) (d :: ds)
end

theorem same_rd {F F' : Hp} (s : Same F F') {a : Addr} {u : HO} (h : Rd F a u) : Rd F' a u := by
  rcases h with h | ⟨o, h⟩
  · exact .inl (s _ _ h)
  · exact .inr ⟨o, s _ _ h⟩
theorem same_sqT {K : Fg} {F F' : Hp} (s : Same F F') {a : Addr} {xs : List V} (h : SqT K F a xs) : SqT K F' a xs := by
  rcases h with h | h
  · exact .inl (same_rd s h)
  · exact .inr h
mutual
theorem Rep.mono {K : Fg} {F F' : Hp} (s : Same F F') : ∀ {v : V} {d : PyData}, Rep K F v d → Rep K F' v d
  | _, _, .non => .non
  | _, _, .bl b => .bl b
  | _, _, .int i => .int i
  | _, _, .str x => .str x
  | _, _, .lst h r => .lst (s _ _ h) (RepAll.mono s r)
  | _, _, .tup h r => .tup (same_sqT s h) (RepAll.mono s r)
  | _, _, .dK h r => .dK (same_rd s h) (RepAll.mono s r)
  | _, _, .dT h r => .dT (same_rd s h) (RepAll.mono s r)
theorem RepAll.mono {K : Fg} {F F' : Hp} (s : Same F F') : ∀ {vs : List V} {ds : List PyData}, RepAll K F vs ds → RepAll K F' vs ds
  | _, _, .nil => .nil
  | _, _, .cons h r => .cons (Rep.mono s h) (RepAll.mono s r)
end
theorem RepAll.length {K : Fg} {F : Hp} : ∀ {vs : List V} {ds : List PyData}, RepAll K F vs ds → vs.length = ds.length
  | _, _, .nil => rfl
  | _, _, .cons _ r => congrArg (· + 1) (RepAll.length r)
theorem RepAll.app {K : Fg} {F : Hp} : ∀ {vs ws : List V} {ds es : List PyData}, RepAll K F vs ds → RepAll K F ws es → RepAll K F (vs ++ ws) (ds ++ es)
  | _, _, _, _, .nil, q => q
  | _, _, _, _, .cons h r, q => .cons h (RepAll.app r q)
theorem RepAll.get {K : Fg} {F : Hp} : ∀ {vs : List V} {ds : List PyData} {i : Nat} {d : PyData}, RepAll K F vs ds → ds[i]? = some d → ∃ v, vs[i]? = some v ∧ Rep K F v d
  | _, _, _, _, .nil, e => by simp at e
  | _, _, 0, _, .cons h _, e => ⟨_, rfl, by simp at e; exact e ▸ h⟩
  | _, _, i + 1, _, .cons _ r, e => by
    obtain ⟨v, h1, h2⟩ := RepAll.get (i := i) r (by simpa using e)
    exact ⟨v, by simpa using h1, h2⟩
theorem RepAll.getv {K : Fg} {F : Hp} : ∀ {vs : List V} {ds : List PyData} {i : Nat} {v : V}, RepAll K F vs ds → vs[i]? = some v → ∃ d, ds[i]? = some d ∧ Rep K F v d
  | _, _, _, _, .nil, e => by simp at e
  | _, _, 0, _, .cons h _, e => ⟨_, rfl, by simp at e; exact e ▸ h⟩
  | _, _, i + 1, _, .cons _ r, e => by
    obtain ⟨v, h1, h2⟩ := RepAll.getv (i := i) r (by simpa using e)
    exact ⟨v, by simpa using h1, h2⟩
theorem RepAll.set {K : Fg} {F : Hp} {v : V} {d : PyData} (h : Rep K F v d) : ∀ {vs : List V} {ds : List PyData} {i : Nat}, RepAll K F vs ds → RepAll K F (vs.set i v) (ds.set i d)
  | _, _, _, .nil => .nil
  | _, _, 0, .cons _ r => .cons h r
  | _, _, i + 1, .cons q r => .cons q (RepAll.set h r)
theorem RepAll.take {K : Fg} {F : Hp} : ∀ {vs : List V} {ds : List PyData} (n : Nat), RepAll K F vs ds → RepAll K F (vs.take n) (ds.take n)
  | _, _, 0, _ => .nil
  | _, _, _ + 1, .nil => .nil
  | _, _, n + 1, .cons h r => .cons h (RepAll.take n r)
theorem RepAll.drop {K : Fg} {F : Hp} : ∀ {vs : List V} {ds : List PyData} (n : Nat), RepAll K F vs ds → RepAll K F (vs.drop n) (ds.drop n)
  | _, _, 0, r => r
  | _, _, _ + 1, .nil => .nil
  | _, _, n + 1, .cons _ r => RepAll.drop n r

/-! ### what a value of Lean stands for -/
structure Enc (τ : Type) where
  enc : τ → PyData
  inj : ∀ a b, enc a = enc b → a = b
def eI : Enc Int := ⟨.int, fun _ _ h => by injection h⟩
def eB : Enc Bool := ⟨.bool, fun _ _ h => by injection h⟩
def eS : Enc Str := ⟨.str, fun _ _ h => by injection h⟩
def eN : Enc Unit := ⟨fun _ => .none, fun _ _ _ => rfl⟩
def eD : Enc PyData := ⟨id, fun _ _ h => h⟩
theorem map_inj {α β : Type} {f : α → β} (h : ∀ a b, f a = f b → a = b) : ∀ {xs ys : List α}, xs.map f = ys.map f → xs = ys
  | [], [], _ => rfl
  | [], _ :: _, e => by simp at e
  | _ :: _, [], e => by simp at e
  | x :: xs, y :: ys, e => by
    simp only [List.map_cons, List.cons.injEq] at e
    rw [h _ _ e.1, map_inj h e.2]
def eL {τ : Type} (E : Enc τ) : Enc (List τ) := ⟨fun xs => .list (xs.map E.enc), fun _ _ h => map_inj E.inj (by injection h)⟩
def eV {τ : Type} (E : Enc τ) : Enc (List τ) := ⟨fun xs => .tuple (xs.map E.enc), fun _ _ h => map_inj E.inj (by injection h)⟩
def eT2 {α β : Type} (A : Enc α) (B : Enc β) : Enc (α × β) := ⟨fun p => .tuple [A.enc p.1, B.enc p.2], fun a b h => by
  injection h with h
  simp only [List.cons.injEq, and_true] at h
  exact Prod.ext (A.inj _ _ h.1) (B.inj _ _ h.2)⟩
def eT3 {α β γ : Type} (A : Enc α) (B : Enc β) (G : Enc γ) : Enc (α × β × γ) := ⟨fun p => .tuple [A.enc p.1, B.enc p.2.1, G.enc p.2.2], fun a b h => by
  injection h with h
  simp only [List.cons.injEq, and_true] at h
  exact Prod.ext (A.inj _ _ h.1) (Prod.ext (B.inj _ _ h.2.1) (G.inj _ _ h.2.2))⟩
def eT4 {α β γ δ : Type} (A : Enc α) (B : Enc β) (G : Enc γ) (D : Enc δ) : Enc (α × β × γ × δ) := ⟨fun p => .tuple [A.enc p.1, B.enc p.2.1, G.enc p.2.2.1, D.enc p.2.2.2], fun a b h => by
  injection h with h
  simp only [List.cons.injEq, and_true] at h
  exact Prod.ext (A.inj _ _ h.1) (Prod.ext (B.inj _ _ h.2.1) (Prod.ext (G.inj _ _ h.2.2.1) (D.inj _ _ h.2.2.2)))⟩
def eT5 {α β γ δ ε : Type} (A : Enc α) (B : Enc β) (G : Enc γ) (D : Enc δ) (E : Enc ε) : Enc (α × β × γ × δ × ε) := ⟨fun p => .tuple [A.enc p.1, B.enc p.2.1, G.enc p.2.2.1, D.enc p.2.2.2.1, E.enc p.2.2.2.2], fun a b h => by
  injection h with h
  simp only [List.cons.injEq, and_true] at h
  exact Prod.ext (A.inj _ _ h.1) (Prod.ext (B.inj _ _ h.2.1) (Prod.ext (G.inj _ _ h.2.2.1) (Prod.ext (D.inj _ _ h.2.2.2.1) (E.inj _ _ h.2.2.2.2))))⟩
def eO {τ : Type} (E : Enc τ) (hn : ∀ a, E.enc a ≠ .none) : Enc (Option τ) := ⟨fun o => match o with | none => .none | some a => E.enc a, fun a b h => by
  cases a <;> cases b
  · rfl
  · exact absurd h.symm (hn _)
  · exact absurd h (hn _)
  · exact congrArg some (E.inj _ _ h)⟩

/-! ### how a slot holds a value: shared data, or objects of its own -/
def grow (F H : Hp) (fp : List Addr) : Hp := fun a => if a ∈ fp then H a else F a
structure Stor (τ : Type) where
  rel : Fg → Hp → Hp → List Addr → V → τ → Prop
  monoF : ∀ {K F F' H fp v x}, Same F F' → rel K F H fp v x → rel K F' H fp v x
  frame : ∀ {K F H H' fp v x}, (∀ a ∈ fp, H' a = H a) → rel K F H fp v x → rel K F H' fp v x
/-- it may be made shared data -/
structure Frz {τ : Type} (S : Stor τ) (E : Enc τ) : Prop where
  frz : ∀ {K F H fp v x}, (∀ a ∈ fp, F a = none) → S.rel K F H fp v x → Rep K (grow F H fp) v (E.enc x)
/-- it owns nothing: it may be told twice -/
structure Cp {τ : Type} (S : Stor τ) : Prop where
  nil : ∀ {K F H fp v x}, S.rel K F H fp v x → fp = []
theorem grow_nil {F H : Hp} : grow F H [] = F := by funext a; simp [grow]
theorem same_grow {F H : Hp} {fp : List Addr} (h : ∀ a ∈ fp, F a = none) : Same F (grow F H fp) := fun a o e => by
  unfold grow
  by_cases m : a ∈ fp
  · rw [h a m] at e; cases e
  · rw [if_neg m]; exact e
theorem grow_sub {F H : Hp} {fp fq : List Addr} (h : ∀ a ∈ fq, F a = none) (s : ∀ a ∈ fp, a ∈ fq) : Same (grow F H fp) (grow F H fq) := fun a o e => by
  unfold grow at e ⊢
  by_cases m : a ∈ fp
  · rw [if_pos m] at e; rw [if_pos (s a m)]; exact e
  · rw [if_neg m] at e
    by_cases m' : a ∈ fq
    · rw [h a m'] at e; cases e
    · rw [if_neg m']; exact e
def it {τ : Type} (E : Enc τ) : Stor τ where
  rel := fun K F _ fp v x => fp = [] ∧ Rep K F v (E.enc x)
  monoF := fun s h => ⟨h.1, h.2.mono s⟩
  frame := fun _ h => h
theorem fz_it {τ : Type} {E : Enc τ} : Frz (it E) E := ⟨fun _ h => by obtain ⟨rfl, r⟩ := h; rw [grow_nil]; exact r⟩
theorem cp_it {τ : Type} {E : Enc τ} : Cp (it E) := ⟨fun h => h.1⟩
/-- a list of ints that stands for good (the script) -/
def scr : Stor (List Int) where
  rel := fun K F _ fp v xs => fp = [] ∧ ∃ a, v = .ref a ∧ SqL K F a (xs.map V.int)
  monoF := fun s h => by obtain ⟨e, a, e2, q⟩ := h; exact ⟨e, a, e2, s.seq q⟩
  frame := fun _ h => h
theorem cp_scr : Cp scr := ⟨fun h => h.1⟩
inductive RelAll {τ : Type} (R : List Addr → V → τ → Prop) : List Addr → List V → List τ → Prop
  | nil : RelAll R [] [] []
  | cons {fp fps v vs x xs} : R fp v x → RelAll R fps vs xs → RelAll R (fp ++ fps) (v :: vs) (x :: xs)
theorem RelAll.imp {τ : Type} {R R' : List Addr → V → τ → Prop} : ∀ {fp : List Addr} {vs : List V} {xs : List τ}, (∀ fq v x, (∀ a ∈ fq, a ∈ fp) → R fq v x → R' fq v x) → RelAll R fp vs xs → RelAll R' fp vs xs
  | _, _, _, _, .nil => .nil
  | _, _, _, f, .cons h r => .cons (f _ _ _ (fun a m => List.mem_append_left _ m) h) (RelAll.imp (fun fq v x s q => f fq v x (fun a m => List.mem_append_right _ (s a m)) q) r)
theorem RelAll.rep {τ : Type} {E : Enc τ} {K : Fg} {F : Hp} {R : List Addr → V → τ → Prop} : ∀ {fp : List Addr} {vs : List V} {xs : List τ}, (∀ fq v x, (∀ a ∈ fq, a ∈ fp) → R fq v x → Rep K F v (E.enc x)) → RelAll R fp vs xs → RepAll K F vs (xs.map E.enc)
  | _, _, _, _, .nil => .nil
  | _, _, _, f, .cons h r => .cons (f _ _ _ (fun a m => List.mem_append_left _ m) h) (RelAll.rep (fun fq v x s q => f fq v x (fun a m => List.mem_append_right _ (s a m)) q) r)
def ls {τ : Type} (S : Stor τ) : Stor (List τ) where
  rel := fun K F H fp v xs => ∃ p vs fps, v = .ref p ∧ H p = some (.lst vs) ∧ RelAll (S.rel K F H) fps vs xs ∧ fp = p :: fps
  monoF := fun s h => by
    obtain ⟨p, vs, fps, rfl, hp, r, rfl⟩ := h
    exact ⟨p, vs, fps, rfl, hp, r.imp fun _ _ _ _ q => S.monoF s q, rfl⟩
  frame := fun f h => by
    obtain ⟨p, vs, fps, rfl, hp, r, rfl⟩ := h
    exact ⟨p, vs, fps, rfl, by rw [f p List.mem_cons_self]; exact hp, r.imp fun fq _ _ s q => S.frame (fun a m => f a (List.mem_cons_of_mem _ (s a m))) q, rfl⟩
theorem fz_ls {τ : Type} {S : Stor τ} {E : Enc τ} (fz : Frz S E) : Frz (ls S) (eL E) := ⟨fun n h => by
  obtain ⟨p, vs, fps, rfl, hp, r, rfl⟩ := h
  refine .lst ?_ (r.rep fun fq v x s q => ?_)
  · show (if p ∈ p :: fps then _ else _) = _
    rw [if_pos List.mem_cons_self]; exact hp
  · exact (fz.frz (fun a m => n a (List.mem_cons_of_mem _ (s a m))) q).mono (grow_sub n fun a m => List.mem_cons_of_mem _ (s a m))⟩

inductive Slot : Type 1
  | un
  | st (w : Option V) (τ : Type) (S : Stor τ) (x : τ)
  | lk (τ : Type) (S : Stor τ) (x : τ)
abbrev Env := List Slot
abbrev Slot.sh {τ : Type} (E : Enc τ) (x : τ) : Slot := .st none τ (it E) x
abbrev Slot.ow {τ : Type} (S : Stor τ) (x : τ) : Slot := .st none τ S x

structure Ck where
  K : Fg
  B : Hp
  F0 : Hp
  He : Hp
  io : List Addr
def SlotOk (C : Ck) (F H : Hp) (o : Option V) : Slot → List Addr → Prop
  | .un, fp => fp = []
  | .st w _ S x, fp => ∃ v, o = some v ∧ S.rel C.K F H fp v x ∧ (match w with | none => ∀ a ∈ fp, C.He a = none | some v0 => v = v0 ∧ ∀ a ∈ fp, C.He a = none ∨ a ∈ C.io)
  | .lk _ S x, fp => fp = [] ∧ ∃ v fq, o = some v ∧ S.rel C.K F H fq v x ∧ ∀ a ∈ fq, C.B a ≠ none
theorem SlotOk.go {C : Ck} {F F' H H' : Hp} {o : Option V} {s : Slot} {fp : List Addr} (sF : Same F F') (hB : ∀ a, C.B a ≠ none → H' a = H a) (h : ∀ a ∈ fp, H' a = H a) (k : SlotOk C F H o s fp) : SlotOk C F' H' o s fp := by
  cases s with
  | un => exact k
  | st w τ S x => obtain ⟨v, e, r, q⟩ := k; exact ⟨v, e, S.monoF sF (S.frame h r), q⟩
  | lk τ S x => obtain ⟨e, v, fq, e2, r, q⟩ := k; exact ⟨e, v, fq, e2, S.monoF sF (S.frame (fun a m => hB a (q a m)) r), q⟩
/-- the footprints of the slots -/
structure Fps (C : Ck) (F H : Hp) (σ : List (Option V)) (env : Env) (fp : Nat → List Addr) : Prop where
  ok : ∀ i s, env[i]? = some s → SlotOk C F H (σ[i]?.join) s (fp i)
  own : ∀ i, i < env.length → ∀ a ∈ fp i, C.B a = none ∧ F a = none ∧ H a ≠ none
  sep : ∀ i j, i < env.length → j < env.length → ∀ a, a ∈ fp i → a ∈ fp j → i = j
  nd : ∀ i, i < env.length → (fp i).Nodup
structure ER (C : Ck) (F H : Hp) (σ : List (Option V)) (env : Env) : Prop where
  sB : Same C.B H
  sF : Same F H
  gr : ∀ a, F a ≠ none → C.F0 a ≠ none ∨ C.He a = none
  up : ∀ a, C.He a ≠ none → H a ≠ none
  len : σ.length = env.length
  sl : ∃ fp, Fps C F H σ env fp

section
variable {C : Ck} {F F' H H' : Hp} {σ : List (Option V)} {env : Env} {o : Option V} {s : Slot} {τ : Type} {S : Stor τ} {E : Enc τ} {x : τ} {v : V} {w : Option V} {i : Nat} {p : Addr} {u : HO}
theorem same_some {H H' : Hp} (s : Same H H') {a : Addr} (h : H a ≠ none) : H' a ≠ none := by
  cases e : H a with
  | none => exact absurd e h
  | some o => rw [s a o e]; exact fun z => by cases z
theorem same_eq {H H' : Hp} (s : Same H H') {a : Addr} (h : H a ≠ none) : H' a = H a := by
  cases e : H a with
  | none => exact absurd e h
  | some o => exact s a o e
theorem ER.look (h : ER C F H σ env) (e : env[i]? = some (.st w τ S x)) : ∃ v fp, σ[i]? = some (some v) ∧ S.rel C.K F H fp v x := by
  obtain ⟨fp, q⟩ := h.sl
  obtain ⟨v, e1, r, _⟩ := q.ok i _ e
  refine ⟨v, fp i, ?_, r⟩
  cases z : σ[i]? with
  | none => rw [z] at e1; cases e1
  | some o => rw [z] at e1; exact congrArg some e1
theorem ER.lookK (h : ER C F H σ env) (e : env[i]? = some (.lk τ S x)) : ∃ v fp, σ[i]? = some (some v) ∧ S.rel C.K F H fp v x := by
  obtain ⟨fp, q⟩ := h.sl
  obtain ⟨_, v, fq, e1, r, _⟩ := q.ok i _ e
  refine ⟨v, fq, ?_, r⟩
  cases z : σ[i]? with
  | none => rw [z] at e1; cases e1
  | some o => rw [z] at e1; exact congrArg some e1
theorem ER.rep (h : ER C F H σ env) (e : env[i]? = some (.st w τ (it E) x)) : ∃ v, σ[i]? = some (some v) ∧ Rep C.K F v (E.enc x) := by
  obtain ⟨v, fp, e1, r⟩ := h.look e
  exact ⟨v, e1, r.2⟩
theorem Fps.push {fp : Nat → List Addr} (q : Fps C F H σ env fp) {fq : List Addr} (ok : SlotOk C F H o s fq) (ow : ∀ a ∈ fq, C.B a = none ∧ F a = none ∧ H a ≠ none) (nd : fq.Nodup) (df : ∀ i, i < env.length → ∀ a ∈ fp i, a ∉ fq) :
    Fps C F H (o :: σ) (s :: env) (fun | 0 => fq | i + 1 => fp i) := by
  refine ⟨?_, ?_, ?_, ?_⟩
  · intro i s' e
    cases i with
    | zero => simp at e; subst e; exact ok
    | succ i => exact q.ok i s' (by simpa using e)
  · intro i hi a ha
    cases i with
    | zero => exact ow a ha
    | succ i => exact q.own i (by simpa using hi) a ha
  · intro i j hi hj a ha hb
    cases i with
    | zero => cases j with
      | zero => rfl
      | succ j => exact absurd ha (df j (by simpa using hj) a hb)
    | succ i => cases j with
      | zero => exact absurd hb (df i (by simpa using hi) a ha)
      | succ j => exact congrArg (· + 1) (q.sep i j (by simpa using hi) (by simpa using hj) a ha hb)
  · intro i hi
    cases i with
    | zero => exact nd
    | succ i => exact q.nd i (by simpa using hi)
theorem ER.push0 (h : ER C F H σ env) (ok : SlotOk C F H o s []) : ER C F H (o :: σ) (s :: env) := by
  obtain ⟨fp, q⟩ := h.sl
  exact ⟨h.sB, h.sF, h.gr, h.up, by simp [h.len], _, q.push ok (fun _ m => nomatch m) List.nodup_nil fun _ _ _ _ m => nomatch m⟩
theorem ER.pushSh (h : ER C F H σ env) (r : Rep C.K F v (E.enc x)) : ER C F H (some v :: σ) (.st none τ (it E) x :: env) :=
  h.push0 ⟨v, rfl, ⟨rfl, r⟩, fun _ m => nomatch m⟩
theorem ER.pushUn (h : ER C F H σ env) : ER C F H (o :: σ) (.un :: env) := h.push0 rfl
theorem ER.pop (h : ER C F H (o :: σ) (s :: env)) : ER C F H σ env := by
  obtain ⟨fp, q⟩ := h.sl
  exact ⟨h.sB, h.sF, h.gr, h.up, by simpa using h.len, fun i => fp (i + 1), fun i s e => q.ok (i + 1) s (by simpa using e), fun i hi => q.own (i + 1) (by simpa using hi),
    fun i j hi hj a ha hb => Nat.succ.inj (q.sep (i + 1) (j + 1) (by simpa using hi) (by simpa using hj) a ha hb), fun i hi => q.nd (i + 1) (by simpa using hi)⟩
theorem ER.popN : ∀ {vs : List (Option V)} {es : Env}, vs.length = es.length → ER C F H (vs ++ σ) (es ++ env) → ER C F H σ env
  | [], [], _, h => h
  | [], _ :: _, e, _ => by simp at e
  | _ :: _, [], e, _ => by simp at e
  | _ :: vs, _ :: es, e, h => ER.popN (vs := vs) (es := es) (by simpa using e) h.pop
theorem Fps.grow {fp : Nat → List Addr} (h : ER C F H σ env) (q : Fps C F H σ env fp) (sH : Same H H') (sF : Same F F') (n : ∀ a, F' a ≠ none → F a ≠ none ∨ H a = none) : Fps C F' H' σ env fp := by
  refine ⟨fun i s e => ?_, fun i hi a ha => ?_, q.sep, q.nd⟩
  · refine (q.ok i s e).go sF (fun a m => same_eq sH (same_some h.sB m)) fun a ha => same_eq sH ?_
    exact (q.own i (by obtain ⟨hi, _⟩ := List.getElem?_eq_some_iff.mp e; exact hi) a ha).2.2
  · obtain ⟨b, f, c⟩ := q.own i hi a ha
    refine ⟨b, ?_, same_some sH c⟩
    cases e : F' a with
    | none => rfl
    | some o =>
      rcases n a (by rw [e]; exact fun z => by cases z) with z | z
      · exact absurd f z
      · exact absurd z c
/-- the heap grows by objects that no slot holds; what is frozen may grow by new ones -/
theorem ER.grow (h : ER C F H σ env) (sH : Same H H') (sF : Same F F') (sF' : Same F' H') (n : ∀ a, F' a ≠ none → F a ≠ none ∨ H a = none) : ER C F' H' σ env := by
  obtain ⟨fp, q⟩ := h.sl
  refine ⟨fun a o e => sH a o (h.sB a o e), sF', fun a m => ?_, fun a m => same_some sH (h.up a m), h.len, fp, q.grow h sH sF n⟩
  rcases n a m with z | z
  · exact h.gr a z
  · refine .inr ?_
    cases e : C.He a with
    | none => rfl
    | some o => exact absurd z (h.up a (by rw [e]; exact fun z => by cases z))
theorem same_new (n : H p = none) : Same H (upd H p u) := fun b o e => by rw [upd_ne (ne_of_none e n)]; exact e
theorem ER.fnone (h : ER C F H σ env) (n : H p = none) : F p = none := by
  cases e : F p with
  | none => rfl
  | some o => rw [h.sF p o e] at n; cases n
theorem ER.bnone (h : ER C F H σ env) (n : H p = none) : C.B p = none := by
  cases e : C.B p with
  | none => rfl
  | some o => rw [h.sB p o e] at n; cases n
theorem ER.hnone (h : ER C F H σ env) (n : H p = none) : C.He p = none := by
  cases e : C.He p with
  | none => rfl
  | some o => exact absurd n (h.up p (by rw [e]; exact fun z => by cases z))
theorem ER.newF (h : ER C F H σ env) (n : H p = none) : ER C (upd F p u) (upd H p u) σ env := by
  refine h.grow (same_new n) (same_new (h.fnone n)) (fun a o e => ?_) fun a m => ?_
  · by_cases z : a = p
    · subst z; rw [upd_same] at e ⊢; exact e
    · rw [upd_ne z] at e ⊢; exact h.sF a o e
  · by_cases z : a = p
    · subst z; exact .inr n
    · rw [upd_ne z] at m; exact .inl m
theorem ER.newH (h : ER C F H σ env) (n : H p = none) : ER C F (upd H p u) σ env :=
  h.grow (same_new n) (fun _ _ e => e) (fun a o e => same_new n a o (h.sF a o e)) fun a m => .inl m
/-- a new object of one's own -/
theorem ER.newOw (h : ER C F H σ env) (n : H p = none) (r : S.rel C.K F (upd H p u) [p] v x) : ER C F (upd H p u) (some v :: σ) (.st none τ S x :: env) := by
  have h' := h.newH (u := u) n
  obtain ⟨fp, q⟩ := h.sl
  have q' := q.grow h (same_new (u := u) n) (fun _ _ e => e) fun a m => .inl m
  refine ⟨h'.sB, h'.sF, h'.gr, h'.up, by simp [h'.len], _, q'.push (fq := [p]) ⟨v, rfl, r, fun a m => ?_⟩ (fun a m => ?_) (by simp) fun i hi a ha m => ?_⟩
  · simp at m; subst m; exact h.hnone n
  · simp at m; subst m; exact ⟨h.bnone n, h.fnone n, by rw [upd_same]; exact fun z => by cases z⟩
  · simp at m; subst m; exact (q.own i hi a ha).2.2 n
/-- a slot's objects are changed by themselves -/
theorem ER.mut (h : ER C F H σ env) (e : env[i]? = some (.st w τ S x)) : ∃ v fp, σ[i]? = some (some v) ∧ S.rel C.K F H fp v x ∧ fp.Nodup ∧ (∀ a ∈ fp, C.B a = none ∧ F a = none ∧ H a ≠ none) ∧
    ∀ (τ' : Type) (S' : Stor τ') (x' : τ') (H' : Hp) (fp' : List Addr), (∀ a, a ∉ fp → H a ≠ none → H' a = H a) → (∀ a, H a ≠ none → H' a ≠ none) → S'.rel C.K F H' fp' v x' → fp'.Nodup → (∀ a ∈ fp', H' a ≠ none ∧ (a ∈ fp ∨ H a = none)) → ER C F H' σ (env.set i (.st w τ' S' x')) := by
  obtain ⟨fp, q⟩ := h.sl
  obtain ⟨hi, _⟩ := List.getElem?_eq_some_iff.mp e
  obtain ⟨v, e1, r, k⟩ := q.ok i _ e
  have e1' : σ[i]? = some (some v) := by
    cases z : σ[i]? with
    | none => rw [z] at e1; cases e1
    | some o => rw [z] at e1; exact congrArg some e1
  refine ⟨v, fp i, e1', r, q.nd i hi, q.own i hi, fun τ' S' x' H' fp' hk hs r' nd' sub => ?_⟩
  have bne : ∀ a, C.B a ≠ none → a ∉ fp i := fun a m z => m (q.own i hi a z).1
  refine ⟨fun a o m => ?_, fun a o m => ?_, h.gr, fun a m => hs a (h.up a m), by simp [h.len], fun j => if j = i then fp' else fp j, fun j s' ej => ?_, fun j hj a ha => ?_, fun j l hj hl a ha hb => ?_, fun j hj => ?_⟩
  · have m' : C.B a ≠ none := by rw [m]; exact fun z => by cases z
    rw [hk a (bne a m') (same_some h.sB m')]; exact h.sB a o m
  · have m' : F a ≠ none := by rw [m]; exact fun z => by cases z
    rw [hk a (fun z => m' (q.own i hi a z).2.1) (same_some h.sF m')]; exact h.sF a o m
  · by_cases z : j = i
    · subst z
      rw [List.getElem?_set_self hi] at ej
      cases ej
      refine ⟨v, e1, ?_, ?_⟩
      · simpa using r'
      · simp only [if_pos]
        cases w with
        | none =>
          intro a ha
          rcases (sub a ha).2 with m | m
          · exact k a m
          · exact h.hnone m
        | some v0 =>
          refine ⟨k.1, fun a ha => ?_⟩
          rcases (sub a ha).2 with m | m
          · exact k.2 a m
          · exact .inl (h.hnone m)
    · rw [List.getElem?_set_ne (fun y => z y.symm)] at ej
      have hj : j < env.length := (List.getElem?_eq_some_iff.mp ej).1
      simp only [if_neg z]
      refine (q.ok j s' ej).go (fun _ _ y => y) (fun a m => hk a (bne a m) (same_some h.sB m)) fun a ha => ?_
      exact hk a (fun y => z (q.sep j i hj hi a ha y)) (q.own j hj a ha).2.2
  · have hj' : j < env.length := by simpa using hj
    by_cases z : j = i
    · subst z
      simp only [if_pos] at ha
      obtain ⟨m1, m⟩ := sub a ha
      rcases m with m | m
      · exact ⟨(q.own j hi a m).1, (q.own j hi a m).2.1, m1⟩
      · exact ⟨h.bnone m, h.fnone m, m1⟩
    · simp only [if_neg z] at ha
      obtain ⟨b, f, c⟩ := q.own j hj' a ha
      exact ⟨b, f, hs a c⟩
  · have hj' : j < env.length := by simpa using hj
    have hl' : l < env.length := by simpa using hl
    by_cases zj : j = i
    · by_cases zl : l = i
      · rw [zj, zl]
      · simp only [if_pos zj] at ha
        simp only [if_neg zl] at hb
        rcases (sub a ha).2 with m | m
        · rw [zj]; exact q.sep i l hi hl' a m hb
        · exact absurd m (q.own l hl' a hb).2.2
    · simp only [if_neg zj] at ha
      by_cases zl : l = i
      · simp only [if_pos zl] at hb
        rcases (sub a hb).2 with m | m
        · rw [zl]; exact q.sep j i hj' hi a ha m
        · exact absurd m (q.own j hj' a ha).2.2
      · simp only [if_neg zl] at hb
        exact q.sep j l hj' hl' a ha hb
  · have hj' : j < env.length := by simpa using hj
    by_cases z : j = i
    · simp only [if_pos z]; exact nd'
    · simp only [if_neg z]; exact q.nd j hj'
/-- what a slot owns is frozen: from here on it is shared -/
theorem ER.freeze (h : ER C F H σ env) (fz : Frz S E) (e : env[i]? = some (.st none τ S x)) : ∃ F', Same F F' ∧ ER C F' H σ (env.set i (.st none τ (it E) x)) := by
  obtain ⟨fp, q⟩ := h.sl
  obtain ⟨hi, _⟩ := List.getElem?_eq_some_iff.mp e
  obtain ⟨v, e1, r, k⟩ := q.ok i _ e
  have fn : ∀ a ∈ fp i, F a = none := fun a m => (q.own i hi a m).2.1
  have sF : Same F (Z.grow F H (fp i)) := same_grow fn
  have bne : ∀ a, C.B a ≠ none → a ∉ fp i := fun a m z => m (q.own i hi a z).1
  refine ⟨Z.grow F H (fp i), sF, h.sB, fun a o m => ?_, fun a m => ?_, h.up, by simp [h.len], fun j => if j = i then [] else fp j, fun j s' ej => ?_, fun j hj a ha => ?_, fun j l hj hl a ha hb => ?_, fun j hj => ?_⟩
  · unfold Z.grow at m
    by_cases z : a ∈ fp i
    · rw [if_pos z] at m; exact m
    · rw [if_neg z] at m; exact h.sF a o m
  · unfold Z.grow at m
    by_cases z : a ∈ fp i
    · exact .inr (k a z)
    · rw [if_neg z] at m; exact h.gr a m
  · by_cases z : j = i
    · subst z
      rw [List.getElem?_set_self hi] at ej
      cases ej
      simp only [if_pos]
      exact ⟨v, e1, ⟨rfl, fz.frz fn r⟩, fun _ m => nomatch m⟩
    · rw [List.getElem?_set_ne (fun y => z y.symm)] at ej
      simp only [if_neg z]
      exact (q.ok j s' ej).go sF (fun a m => rfl) fun a ha => rfl
  · have hj' : j < env.length := by simpa using hj
    by_cases z : j = i
    · simp [if_pos z] at ha
    · simp only [if_neg z] at ha
      obtain ⟨b, f, c⟩ := q.own j hj' a ha
      refine ⟨b, ?_, c⟩
      unfold Z.grow
      rw [if_neg (fun y => z (q.sep j i hj' hi a ha y))]; exact f
  · have hj' : j < env.length := by simpa using hj
    have hl' : l < env.length := by simpa using hl
    by_cases zj : j = i
    · simp [if_pos zj] at ha
    · by_cases zl : l = i
      · simp [if_pos zl] at hb
      · simp only [if_neg zj] at ha
        simp only [if_neg zl] at hb
        exact q.sep j l hj' hl' a ha hb
  · have hj' : j < env.length := by simpa using hj
    by_cases z : j = i
    · simp [if_pos z]
    · simp only [if_neg z]; exact q.nd j hj'
/-- slots renamed: f tells where each new slot stood; each is taken once or owns nothing -/
theorem ER.perm {σ' : List (Option V)} {env' : Env} (h : ER C F H σ env) (len : σ'.length = env'.length) (f : Nat → Nat)
    (hf : ∀ j s', env'[j]? = some s' → s' = .un ∨ (env[f j]? = some s' ∧ σ'[j]?.join = σ[f j]?.join ∧ ∀ l s'', env'[l]? = some s'' → s'' ≠ .un → f l = f j → l = j)) : ER C F H σ' env' := by
  classical
  obtain ⟨fp, q⟩ := h.sl
  refine ⟨h.sB, h.sF, h.gr, h.up, len, fun j => match env'[j]? with | some .un => [] | some _ => fp (f j) | none => [], fun j s' ej => ?_, fun j hj a ha => ?_, fun j l hj hl a ha hb => ?_, fun j hj => ?_⟩
  · simp only [ej]
    rcases hf j s' ej with rfl | ⟨e, eo, _⟩
    · exact rfl
    · have := q.ok (f j) s' e
      rw [← eo] at this
      cases s' with
      | un => exact rfl
      | st _ _ _ _ => exact this
      | lk _ _ _ => exact this
  · cases ej : env'[j]? with
    | none => rw [ej] at ha; cases ha
    | some s' =>
      rcases hf j s' ej with rfl | ⟨e, eo, _⟩
      · rw [ej] at ha; cases ha
      · have ha' : a ∈ fp (f j) := by
          rw [ej] at ha
          cases s' with
          | un => cases ha
          | st _ _ _ _ => exact ha
          | lk _ _ _ => exact ha
        exact q.own (f j) (List.getElem?_eq_some_iff.mp e).1 a ha'
  · cases ej : env'[j]? with
    | none => rw [ej] at ha; cases ha
    | some s' =>
      cases el : env'[l]? with
      | none => rw [el] at hb; cases hb
      | some s'' =>
        rcases hf j s' ej with rfl | ⟨e, eo, u⟩
        · rw [ej] at ha; cases ha
        · rcases hf l s'' el with rfl | ⟨e2, eo2, u2⟩
          · rw [el] at hb; cases hb
          · have ha' : a ∈ fp (f j) := by
              rw [ej] at ha
              cases s' with
              | un => cases ha
              | st _ _ _ _ => exact ha
              | lk _ _ _ => exact ha
            have hb' : a ∈ fp (f l) := by
              rw [el] at hb
              cases s'' with
              | un => cases hb
              | st _ _ _ _ => exact hb
              | lk _ _ _ => exact hb
            have hne : s'' ≠ .un := by
              rintro rfl
              rw [el] at hb; cases hb
            exact (u l s'' el hne (q.sep _ _ (List.getElem?_eq_some_iff.mp e2).1 (List.getElem?_eq_some_iff.mp e).1 a hb' ha')).symm
  · show (match env'[j]? with | some .un => [] | some _ => fp (f j) | none => []).Nodup
    cases ej : env'[j]? with
    | none => exact List.nodup_nil
    | some s' =>
      rcases hf j s' ej with rfl | ⟨e, eo, _⟩
      · exact List.nodup_nil
      · have := q.nd (f j) (List.getElem?_eq_some_iff.mp e).1
        cases s' with
        | un => exact List.nodup_nil
        | st _ _ _ _ => exact this
        | lk _ _ _ => exact this
end
end Z

set_option Elab.async false
set_option linter.all false
set_option maxRecDepth 100000
namespace Z
open PySem PySem.Spec PyProof.Rows L2

section
variable {C : Ck} {F F' H H' : Hp} {σ σs σ' : List (Option V)} {env es env' : Env} {o : Option V} {s : Slot} {τ : Type} {S : Stor τ} {E : Enc τ} {x : τ} {v : V} {w : Option V} {i : Nat} {p : Addr} {u : HO}
theorem at_app {α : Type _} {as bs : List α} {i : Nat} (n : Nat) (h : as.length = n) : (as ++ bs)[n + i]? = bs[i]? := by
  subst h; rw [List.getElem?_append_right (Nat.le_add_right _ _), Nat.add_sub_cancel_left]
theorem ER.lookF (h : ER C F H (σs ++ σ) (es ++ env)) (hl : σs.length = es.length) (e : env[i]? = some (.st w τ S x)) : ∃ v fp, σ[i]? = some (some v) ∧ S.rel C.K F H fp v x := by
  obtain ⟨v, fp, a, b⟩ := h.look (i := es.length + i) (by rw [at_app _ rfl]; exact e)
  exact ⟨v, fp, by rw [at_app _ hl] at a; exact a, b⟩
theorem ER.lookKF (h : ER C F H (σs ++ σ) (es ++ env)) (hl : σs.length = es.length) (e : env[i]? = some (.lk τ S x)) : ∃ v fp, σ[i]? = some (some v) ∧ S.rel C.K F H fp v x := by
  obtain ⟨v, fp, a, b⟩ := h.lookK (i := es.length + i) (by rw [at_app _ rfl]; exact e)
  exact ⟨v, fp, by rw [at_app _ hl] at a; exact a, b⟩
theorem ER.repF (h : ER C F H (σs ++ σ) (es ++ env)) (hl : σs.length = es.length) (e : env[i]? = some (.st w τ (it E) x)) : ∃ v, σ[i]? = some (some v) ∧ Rep C.K F v (E.enc x) := by
  obtain ⟨v, fp, a, b⟩ := h.lookF hl e
  exact ⟨v, a, b.2⟩
theorem ER.lenF (h : ER C F H (σs ++ σ) (es ++ env)) (hl : σs.length = es.length) : σ.length = env.length := by
  have := h.len; simp [hl] at this; exact this
/-- the top of the stack goes to slot i -/
theorem ER.asg (h : ER C F H (o :: (σs ++ σ)) (s :: (es ++ env))) (hl : σs.length = es.length) (hi : i < env.length) : ER C F H (σs ++ σ.set i o) (es ++ env.set i s) := by
  have hls : σ.length = env.length := h.pop.lenF hl
  refine h.perm (by simp [hl, hls]) (fun j => if j = es.length + i then 0 else j + 1) fun j s' ej => .inr ?_
  by_cases z : j = es.length + i
  · subst z
    rw [at_app _ rfl, List.getElem?_set_self hi] at ej
    cases ej
    refine ⟨by simp, ?_, fun l s'' _ _ q => ?_⟩
    · simp only [if_pos]
      rw [at_app _ hl, List.getElem?_set_self (by omega)]
      rfl
    · by_cases y : l = es.length + i
      · exact y
      · simp only [if_neg y, if_pos] at q; omega
  · refine ⟨?_, ?_, fun l s'' _ _ q => ?_⟩
    · simp only [if_neg z, List.getElem?_cons_succ]
      by_cases a : j < es.length
      · rw [List.getElem?_append_left a] at ej ⊢; exact ej
      · obtain ⟨m, rfl⟩ : ∃ m, j = es.length + m := ⟨j - es.length, by omega⟩
        rw [at_app _ rfl, List.getElem?_set_ne (by omega)] at ej
        rw [at_app _ rfl]; exact ej
    · simp only [if_neg z, List.getElem?_cons_succ]
      by_cases a : j < es.length
      · rw [List.getElem?_append_left (by omega), List.getElem?_append_left (by omega)]
      · obtain ⟨m, rfl⟩ : ∃ m, j = es.length + m := ⟨j - es.length, by omega⟩
        rw [at_app _ hl, at_app _ hl, List.getElem?_set_ne (by omega)]
    · simp only [if_neg z] at q
      by_cases y : l = es.length + i
      · simp only [if_pos y] at q; omega
      · simp only [if_neg y] at q; omega
/-- weaker slots -/
inductive Sub : Env → Env → Prop
  | nil : Sub [] []
  | keep {s : Slot} {a b : Env} : Sub a b → Sub (s :: a) (s :: b)
  | drop {s : Slot} {a b : Env} : Sub a b → Sub (s :: a) (.un :: b)
theorem Sub.get : ∀ {a b : Env}, Sub a b → ∀ (j : Nat) (s' : Slot), b[j]? = some s' → s' = Slot.un ∨ a[j]? = some s'
  | _, _, .nil, j, s', e => by simp at e
  | _, _, .keep r, 0, s', e => .inr e
  | _, _, .keep r, j + 1, s', e => by simpa using r.get j s' (by simpa using e)
  | _, _, .drop r, 0, s', e => .inl (by simp at e; exact e.symm)
  | _, _, .drop r, j + 1, s', e => by simpa using r.get j s' (by simpa using e)
theorem Sub.len : ∀ {a b : Env}, Sub a b → a.length = b.length
  | _, _, .nil => rfl
  | _, _, .keep r => congrArg (· + 1) r.len
  | _, _, .drop r => congrArg (· + 1) r.len
theorem Sub.refl : ∀ (a : Env), Sub a a
  | [] => .nil
  | _ :: a => .keep (Sub.refl a)
theorem Sub.pre : ∀ (es : Env) {a b : Env}, Sub a b → Sub (es ++ a) (es ++ b)
  | [], _, _, r => r
  | _ :: es, _, _, r => .keep (Sub.pre es r)
theorem ER.sub (h : ER C F H σ env) (q : Sub env env') : ER C F H σ env' :=
  h.perm (by rw [h.len, q.len]) id fun j s' e => (q.get j s' e).imp id fun y => ⟨y, rfl, fun l _ _ _ z => z⟩
theorem ER.subF (h : ER C F H (σs ++ σ) (es ++ env)) (q : Sub env env') : ER C F H (σs ++ σ) (es ++ env') := h.sub (q.pre es)
theorem rot_key {α : Type _} (a : α) (at_ as : List α) {n : Nat} (hlen : at_.length = n) (j : Nat) : (a :: (at_ ++ as))[j]? = (at_ ++ a :: as)[if j = 0 then n else if j ≤ n then j - 1 else j]? := by
  by_cases z : j = 0
  · subst z
    simp only [if_pos, List.getElem?_cons_zero]
    rw [List.getElem?_append_right (by omega), hlen, Nat.sub_self]; rfl
  · obtain ⟨m, rfl⟩ : ∃ m, j = m + 1 := ⟨j - 1, by omega⟩
    simp only [if_neg z, List.getElem?_cons_succ]
    by_cases y : m + 1 ≤ n
    · rw [if_pos y, Nat.add_sub_cancel, List.getElem?_append_left (by omega), List.getElem?_append_left (by omega)]
    · rw [if_neg y, List.getElem?_append_right (by omega), List.getElem?_append_right (by omega)]
      obtain ⟨q, hq⟩ : ∃ q, m = n + q := ⟨m - n, by omega⟩
      subst hq
      rw [hlen, show n + q + 1 - n = q + 1 by omega, List.getElem?_cons_succ, show n + q - n = q by omega]
/-- a pushed value stands under others: it comes to the top -/
theorem ER.rot {σt : List (Option V)} {et : Env} (h : ER C F H (σt ++ o :: σ) (et ++ s :: env)) (hl : σt.length = et.length) : ER C F H (o :: (σt ++ σ)) (s :: (et ++ env)) := by
  have hls : σ.length = env.length := by have := h.len; simp [hl] at this; omega
  refine h.perm (by simp [hl, hls]) (fun j => if j = 0 then et.length else if j ≤ et.length then j - 1 else j) fun j s' ej => .inr ?_
  refine ⟨?_, ?_, fun l s'' _ _ q => ?_⟩
  · rw [← rot_key s et env rfl]; exact ej
  · rw [rot_key o σt σ hl]
  · by_cases z : j = 0
    · subst z
      by_cases y : l = 0
      · exact y
      · simp only [if_neg y, if_pos] at q
        by_cases a : l ≤ et.length
        · rw [if_pos a] at q; omega
        · rw [if_neg a] at q; omega
    · by_cases y : l = 0
      · subst y
        simp only [if_neg z, if_pos] at q
        by_cases a : j ≤ et.length
        · rw [if_pos a] at q; omega
        · rw [if_neg a] at q; omega
      · simp only [if_neg z, if_neg y] at q
        by_cases a : j ≤ et.length
        · rw [if_pos a] at q
          by_cases b : l ≤ et.length
          · rw [if_pos b] at q; omega
          · rw [if_neg b] at q; omega
        · rw [if_neg a] at q
          by_cases b : l ≤ et.length
          · rw [if_pos b] at q; omega
          · rw [if_neg b] at q; omega
theorem unrot_key {α : Type _} (a : α) (at_ as : List α) {n : Nat} (hlen : at_.length = n) (j : Nat) : (at_ ++ a :: as)[j]? = (a :: (at_ ++ as))[if j < n then j + 1 else if j = n then 0 else j]? := by
  by_cases z : j < n
  · rw [if_pos z, List.getElem?_cons_succ, List.getElem?_append_left (by omega), List.getElem?_append_left (by omega)]
  · rw [if_neg z]
    by_cases y : j = n
    · rw [if_pos y, List.getElem?_append_right (by omega), hlen, y, Nat.sub_self]; rfl
    · rw [if_neg y, List.getElem?_append_right (by omega)]
      obtain ⟨q, rfl⟩ : ∃ q, j = n + 1 + q := ⟨j - n - 1, by omega⟩
      rw [hlen, show n + 1 + q - n = q + 1 by omega, List.getElem?_cons_succ, show n + 1 + q = (n + q) + 1 by omega, List.getElem?_cons_succ, List.getElem?_append_right (by omega), hlen, Nat.add_sub_cancel_left]
/-- the top goes below others -/
theorem ER.unrot {σt : List (Option V)} {et : Env} (h : ER C F H (o :: (σt ++ σ)) (s :: (et ++ env))) (hl : σt.length = et.length) : ER C F H (σt ++ o :: σ) (et ++ s :: env) := by
  have hls : σ.length = env.length := by have := h.len; simp [hl] at this; omega
  refine h.perm (by simp [hl, hls]) (fun j => if j < et.length then j + 1 else if j = et.length then 0 else j) fun j s' ej => .inr ?_
  refine ⟨?_, ?_, fun l s'' _ _ q => ?_⟩
  · rw [← unrot_key s et env rfl]; exact ej
  · rw [unrot_key o σt σ hl]
  · by_cases z : j < et.length
    · simp only [if_pos z] at q
      by_cases y : l < et.length
      · simp only [if_pos y] at q; omega
      · simp only [if_neg y] at q
        by_cases x : l = et.length
        · simp only [if_pos x] at q; omega
        · simp only [if_neg x] at q; omega
    · simp only [if_neg z] at q
      by_cases y : l < et.length
      · simp only [if_pos y] at q
        by_cases x : j = et.length
        · simp only [if_pos x] at q; omega
        · simp only [if_neg x] at q; omega
      · simp only [if_neg y] at q
        by_cases x : j = et.length
        · simp only [if_pos x] at q
          by_cases w : l = et.length
          · omega
          · simp only [if_neg w] at q; omega
        · simp only [if_neg x] at q
          by_cases w : l = et.length
          · simp only [if_pos w] at q; omega
          · simp only [if_neg w] at q; omega
end

/-! ### the judgements -/
section
variable (X : Cx) {Ω : Type}
/-- the weakest readings -/
def tE (e : Expr) : TE := fun σ H Q => ∀ pins s, Inv X pins σ H s → wpAny (model X.prog X.w) X.A (eval e X.env) (EP X pins σ Q) X.xe s
def tT (e : Expr) : TT := fun σ H Q => ∀ pins s, Inv X pins σ H s → wpAny (model X.prog X.w) X.A (isTrue e X.env (eval e X.env)) (TP X pins σ Q) X.xe s
def tAs (es : List Expr) : TA := fun σ H Q => ∀ pos pins s, Inv X pins σ H s → wpAny (model X.prog X.w) X.A (spliced (backTo pos (starEach es X.env))) (AP X pins σ Q) X.xe s
def tSs (st : List Stmt) : TS := fun D σ H => ∀ pins s, Inv X pins σ H s → wpAny (model X.prog X.w) X.A (execs st X.env) (SP X pins D) X.xe s
def tS1 (st : Stmt) : TS := fun D σ H => ∀ pins s, Inv X pins σ H s → wpAny (model X.prog X.w) X.A (exec st X.env) (SP X pins D) X.xe s
theorem peC {e : Expr} : PE X e (tE X e) := ⟨fun pins s σ H Q I h => h pins s I⟩
theorem ptC {e : Expr} : PT X e (tT X e) := ⟨fun pins s σ H Q I h => h pins s I⟩
theorem paC {es : List Expr} : PA X es (tAs X es) := ⟨fun pos pins s σ H Q I h => h pos pins s I⟩
theorem pssC {st : List Stmt} : PSs X st (tSs X st) := ⟨fun pins s σ H D I h => h pins s I⟩
theorem psC {st : Stmt} : PS X st (tS1 X st) := ⟨fun pins s σ H D I h => h pins s I⟩
theorem tE.of {e : Expr} {t : TE} {σ : L2.St} {H : Hp} {Q : VK} (h : PE X e t) (q : t σ H Q) : tE X e σ H Q := fun pins s I => h.run pins s σ H Q I q
theorem tT.of {e : Expr} {t : TT} {σ : L2.St} {H : Hp} {Q : Bool → Hp → Prop} (h : PT X e t) (q : t σ H Q) : tT X e σ H Q := fun pins s I => h.run pins s σ H Q I q
theorem tAs.of {es : List Expr} {t : TA} {σ : L2.St} {H : Hp} {Q : List V → Hp → Prop} (h : PA X es t) (q : t σ H Q) : tAs X es σ H Q := fun pos pins s I => h.run pos pins s σ H Q I q
theorem tSs.of {st : List Stmt} {t : TS} {σ : L2.St} {H : Hp} {D : Ends} (h : PSs X st t) (q : t D σ H) : tSs X st D σ H := fun pins s I => h.run pins s σ H D I q
theorem tS1.of {st : Stmt} {t : TS} {σ : L2.St} {H : Hp} {D : Ends} (h : PS X st t) (q : t D σ H) : tS1 X st D σ H := fun pins s I => h.run pins s σ H D I q

def LX (env : Env) (e : Expr) {τ : Type} (S : Stor τ) {P : Type} (env' : P → Env) (f : (τ → P → Option Ω) → Option Ω) : Prop :=
  ∀ (C : Ck) (F H : Hp) (σs : List (Option V)) (es : Env) (σ : List (Option V)) (k : τ → P → Option Ω) (ω : Ω) (Q : VK), C.K = X.K → σs.length = es.length → ER C F H (σs ++ σ) (es ++ env) → f k = some ω →
    (∀ a p v F' H', k a p = some ω → ER C F' H' (some v :: (σs ++ σ)) (.st none τ S a :: (es ++ env' p)) → Q v H') → tE X e σ H Q
def LT (env : Env) (e : Expr) {P : Type} (env' : P → Env) (f : (Bool → P → Option Ω) → Option Ω) : Prop :=
  ∀ (C : Ck) (F H : Hp) (σs : List (Option V)) (es : Env) (σ : List (Option V)) (k : Bool → P → Option Ω) (ω : Ω) (Q : Bool → Hp → Prop), C.K = X.K → σs.length = es.length → ER C F H (σs ++ σ) (es ++ env) → f k = some ω →
    (∀ a p F' H', k a p = some ω → ER C F' H' (σs ++ σ) (es ++ env' p) → Q a H') → tT X e σ H Q
/-- an operand: what it tells may be read as long as the slots stand -/
def LO (G : Env → Prop) (env : Env) (e : Expr) {τ : Type} (S : Stor τ) {P : Type} (env' : P → Env) (f : (τ → P → Option Ω) → Option Ω) : Prop :=
  ∀ (C : Ck) (F H : Hp) (σs : List (Option V)) (es : Env) (σ : List (Option V)) (k : τ → P → Option Ω) (ω : Ω) (Q : VK), C.K = X.K → σs.length = es.length → ER C F H (σs ++ σ) (es ++ env) → f k = some ω →
    (∀ a p v F' H' (σx : List (Option V)) (ex : Env), σx.length = ex.length → k a p = some ω → ER C F' H' (σx ++ (σs ++ σ)) (ex ++ (es ++ env' p)) →
      (∀ (F'' H'' : Hp) (σ2 : List (Option V)) (e2 env2 : Env), G env2 → σ2.length = e2.length → ER C F'' H'' (σ2 ++ (σx ++ (σs ++ σ))) (e2 ++ (ex ++ (es ++ env2))) → ∃ fp, S.rel C.K F'' H'' fp v a) → Q v H') → tE X e σ H Q
/-- arguments, from the left -/
def LA (env : Env) (xs : List Expr) {A : Type} (sl : A → Env) {P : Type} (env' : P → Env) (f : (A → P → Option Ω) → Option Ω) : Prop :=
  ∀ (C : Ck) (F H : Hp) (σs : List (Option V)) (es : Env) (σ : List (Option V)) (k : A → P → Option Ω) (ω : Ω) (Q : List V → Hp → Prop), C.K = X.K → σs.length = es.length → ER C F H (σs ++ σ) (es ++ env) → f k = some ω →
    (∀ a p (vs : List V) F' H', k a p = some ω → (vs.map some).length = (sl a).length → ER C F' H' (vs.map some ++ (σs ++ σ)) (sl a ++ (es ++ env' p)) → Q vs H') → tAs X xs σ H Q
/-- a comparison: value and test -/
def LC (env : Env) (op : CmpOp) (a b : Expr) {P : Type} (env' : P → Env) (f : (Bool → P → Option Ω) → Option Ω) : Prop :=
  ∃ r : R2, OpR X (compareOp op) r ∧ ∀ (C : Ck) (F H : Hp) (σs : List (Option V)) (es : Env) (σ : List (Option V)) (k : Bool → P → Option Ω) (ω : Ω) (Q : VK), C.K = X.K → σs.length = es.length → ER C F H (σs ++ σ) (es ++ env) → f k = some ω →
    (∀ c p F' H', k c p = some ω → ER C F' H' (σs ++ σ) (es ++ env' p) → Q (.bl c) H') → tOp r (tE X a) (tE X b) σ H Q
end

/-- a label: where a break or a continue goes -/
structure Lp (Ω : Type) where
  J : Type
  env : J → Env
  k : J → Option Ω
def noLp (Ω : Type) : Lp Ω := ⟨Empty, fun e => e.elim, fun e => e.elim⟩
section
variable (X : Cx)
def LB {R I Ω : Type} (S : Stor R) (envR : I → Env) (kr : R → I → Option Ω) (bk ct : Lp Ω) (env : Env) (sts : List Stmt) {J : Type} (envJ : J → Env) (f : (J → Option Ω) → Option Ω) : Prop :=
  ∀ (C : Ck) (F H : Hp) (σs : List (Option V)) (es : Env) (σ : List (Option V)) (kn : J → Option Ω) (ω : Ω) (D : Ends), C.K = X.K → σs.length = es.length → ER C F H (σs ++ σ) (es ++ env) → f kn = some ω →
    (∀ j F' H' σ', kn j = some ω → ER C F' H' (σs ++ σ') (es ++ envJ j) → D.nx σ' H') →
    (∀ j F' H' σ', bk.k j = some ω → ER C F' H' (σs ++ σ') (es ++ bk.env j) → D.bk σ' H') →
    (∀ j F' H' σ', ct.k j = some ω → ER C F' H' (σs ++ σ') (es ++ ct.env j) → D.ct σ' H') →
    (∀ a i v F' H' σ', kr a i = some ω → ER C F' H' (some v :: (σs ++ σ')) (.st none R S a :: (es ++ envR i)) → D.rt v H') → tSs X sts D σ H
end

/-! ### names, constants -/
section
variable {X : Cx} {Ω : Type} {env env1 : Env} {τ : Type} {S : Stor τ} {E : Enc τ} {x : τ} {w : Option V} {i : Nat} {nm : Str} {pos : Pos} {e a b : Expr} {P P1 P2 : Type} {f : (τ → P → Option Ω) → Option Ω} {env' : P → Env}
theorem lx_var (i : Nat) (cp : Cp S) (e : env[i]? = some (.st w τ S x)) (hN : X.N[i]? = some nm := by rfl) (hv : Vis X.env.scope nm := by first | exact Or.inl rfl | exact Or.inr (Or.inl rfl) | exact Or.inr (Or.inr rfl)) (hd : (nm == ("__debug__" : Str)) = false := by decide) (hcd : (nm == ("__classdict__" : Str)) = false := by decide) :
    LX X env (.Name nm pos) S (fun _ : Unit => env) (fun (k : τ → Unit → Option Ω) => k x ()) := by
  refine fun C F H σs es σ k ω Q hK hl h hk q => tE.of X (pe_var hN hv hd hcd) ?_
  obtain ⟨v, fp, e1, r⟩ := h.lookF hl e
  have z := cp.nil r
  subst z
  exact ⟨v, e1, q x () v F H hk (h.push0 ⟨v, rfl, r, fun _ m => nomatch m⟩)⟩
/-- an own object is read and shared from here on -/
theorem lx_frz (i : Nat) (fz : Frz S E) (e : env[i]? = some (.st none τ S x)) (hN : X.N[i]? = some nm := by rfl) (hv : Vis X.env.scope nm := by first | exact Or.inl rfl | exact Or.inr (Or.inl rfl) | exact Or.inr (Or.inr rfl)) (hd : (nm == ("__debug__" : Str)) = false := by decide) (hcd : (nm == ("__classdict__" : Str)) = false := by decide) :
    LX X env (.Name nm pos) (it E) (fun _ : Unit => env.set i (.st none τ (it E) x)) (fun (k : τ → Unit → Option Ω) => k x ()) := by
  refine fun C F H σs es σ k ω Q hK hl h hk q => tE.of X (pe_var hN hv hd hcd) ?_
  obtain ⟨F', sF, h'⟩ := h.freeze (i := es.length + i) fz (by rw [at_app _ rfl]; exact e)
  have h2 : ER C F' H (σs ++ σ) (es ++ env.set i (.st none τ (it E) x)) := by
    rw [List.set_append_right _ _ (Nat.le_add_right _ _), Nat.add_sub_cancel_left] at h'
    exact h'
  obtain ⟨v, e1, r⟩ := h2.repF (i := i) (E := E) (x := x) (w := none) hl (by rw [List.getElem?_set_self (List.getElem?_eq_some_iff.mp e).1])
  exact ⟨v, e1, q x () v F' H hk (h2.pushSh r)⟩
/-- an own object is handed on -/
theorem lx_move (i : Nat) (e : env[i]? = some (.st none τ S x)) (hN : X.N[i]? = some nm := by rfl) (hv : Vis X.env.scope nm := by first | exact Or.inl rfl | exact Or.inr (Or.inl rfl) | exact Or.inr (Or.inr rfl)) (hd : (nm == ("__debug__" : Str)) = false := by decide) (hcd : (nm == ("__classdict__" : Str)) = false := by decide) :
    LX X env (.Name nm pos) S (fun _ : Unit => env.set i .un) (fun (k : τ → Unit → Option Ω) => k x ()) := by
  refine fun C F H σs es σ k ω Q hK hl h hk q => tE.of X (pe_var hN hv hd hcd) ?_
  obtain ⟨v, fp, e1, r⟩ := h.lookF hl e
  refine ⟨v, e1, q x () v F H hk ?_⟩
  have hi := (List.getElem?_eq_some_iff.mp e).1
  refine h.perm (by have := h.len; simp at this ⊢; omega) (fun j => if j = 0 then es.length + i else j - 1) fun j s' ej => ?_
  cases j with
  | zero =>
    simp at ej; subst ej
    refine .inr ⟨?_, ?_, fun l s'' el hne hq => ?_⟩
    · simp only [if_pos]; rw [at_app _ rfl]; exact e
    · simp only [if_pos]; rw [at_app _ hl, e1]; rfl
    · by_cases z : l = 0
      · exact z
      · exfalso
        simp only [if_neg z, if_pos] at hq
        obtain ⟨m, rfl⟩ : ∃ m, l = m + 1 := ⟨l - 1, by omega⟩
        have hm : m = es.length + i := by omega
        subst hm
        rw [List.getElem?_cons_succ, at_app _ rfl, List.getElem?_set_self hi] at el
        exact hne (Option.some.inj el).symm
  | succ j =>
    rw [List.getElem?_cons_succ] at ej
    by_cases z : j = es.length + i
    · subst z
      rw [at_app _ rfl, List.getElem?_set_self hi] at ej
      exact .inl (Option.some.inj ej).symm
    · refine .inr ⟨?_, by simp, fun l s'' el hne hq => ?_⟩
      · simp only [Nat.add_one_sub_one, if_neg (Nat.succ_ne_zero j)]
        by_cases y : j < es.length
        · rw [List.getElem?_append_left y] at ej ⊢; exact ej
        · obtain ⟨m, rfl⟩ : ∃ m, j = es.length + m := ⟨j - es.length, by omega⟩
          rw [at_app _ rfl, List.getElem?_set_ne (by omega)] at ej
          rw [at_app _ rfl]; exact ej
      · by_cases y : l = 0
        · subst y; simp only [if_pos, if_neg (Nat.succ_ne_zero j)] at hq; omega
        · simp only [if_neg y, if_neg (Nat.succ_ne_zero j)] at hq; omega
theorem lx_c {v : V} (hp : PE X e (tC v)) (r : ∀ F, Rep X.K F v (E.enc x)) : LX X env e (it E) (fun _ : Unit => env) (fun (k : τ → Unit → Option Ω) => k x ()) :=
  fun C F H σs es σ k ω Q hK hl h hk q => tE.of X hp (q x () v F H hk (h.pushSh (by rw [hK]; exact r F)))
theorem lx_int {n : Int} {j : Nat} : LX X env (.Constant (.int n) j pos) (it eI) (fun _ : Unit => env) (fun (k : Int → Unit → Option Ω) => k n ()) := lx_c pe_int fun _ => .int n
theorem lx_bl {c : Bool} {j : Nat} : LX X env (.Constant (.bool c) j pos) (it eB) (fun _ : Unit => env) (fun (k : Bool → Unit → Option Ω) => k c ()) := lx_c pe_bl fun _ => .bl c
theorem lx_str {c : Str} {j : Nat} : LX X env (.Constant (.str c) j pos) (it eS) (fun _ : Unit => env) (fun (k : Str → Unit → Option Ω) => k c ()) := lx_c pe_str fun _ => .str c
theorem lx_non {j : Nat} : LX X env (.Constant .none j pos) (it eN) (fun _ : Unit => env) (fun (k : Unit → Unit → Option Ω) => k () ()) := lx_c pe_non fun _ => .non
/-- what is told may be taken for another kind of the same data -/
theorem lx_as {τ' : Type} {E' : Enc τ'} (h : LX X env e (it E) env' f) (g : τ → τ') (hg : ∀ a, E'.enc (g a) = E.enc a) : LX X env e (it E') env' (fun (k : τ' → P → Option Ω) => f fun a p => k (g a) p) := by
  refine fun C F H σs es σ k ω Q hK hl hr hk q => h C F H σs es σ _ ω Q hK hl hr hk fun a p v F' H' hka h' => q (g a) p v F' H' hka ?_
  obtain ⟨v', fp, e1, r⟩ := h'.look (i := 0) rfl
  simp at e1; subst e1
  exact h'.pop.pushSh (by rw [hg]; exact r.2)
/-- .. a cast: where the data are of another kind the walk is not followed -/
theorem lx_cast {τ' : Type} {E' : Enc τ'} (h : LX X env e (it E) env' f) (g : τ → Option τ') (hg : ∀ a b, g a = some b → E'.enc b = E.enc a) : LX X env e (it E') env' (fun (k : τ' → P → Option Ω) => f fun a p => (g a).bind fun b => k b p) := by
  refine fun C F H σs es σ k ω Q hK hl hr hk q => h C F H σs es σ _ ω Q hK hl hr hk fun a p v F' H' hka h' => ?_
  cases z : g a with
  | none => rw [z] at hka; cases hka
  | some b =>
    rw [z] at hka
    obtain ⟨v', fp, e1, r⟩ := h'.look (i := 0) rfl
    simp at e1; subst e1
    exact q b p v F' H' hka (h'.pop.pushSh (by rw [hg a b z]; exact r.2))
/-- own objects that were made are shared -/
theorem lx_sh (fz : Frz S E) (h : LX X env e S env' f) : LX X env e (it E) env' f := by
  refine fun C F H σs es σ k ω Q hK hl hr hk q => h C F H σs es σ k ω Q hK hl hr hk fun a p v F' H' hka h' => ?_
  obtain ⟨F2, sF, h2⟩ := h'.freeze (i := 0) fz rfl
  exact q a p v F2 H' hka h2
/-- the operands -/
theorem lo_of (h : LX X env e S env' f) : LO X (fun _ => True) env e S env' f := by
  refine fun C F H σs es σ k ω Q hK hl hr hk q => h C F H σs es σ k ω Q hK hl hr hk fun a p v F' H' hka h' => ?_
  refine q a p v F' H' [some v] [.st none τ S a] rfl hka h' fun F'' H'' σ2 e2 env2 _ hl2 h2 => ?_
  obtain ⟨v', fp, e1, r⟩ := h2.look (i := e2.length + 0) (by rw [at_app _ rfl]; rfl)
  rw [at_app _ hl2] at e1
  simp at e1; subst e1
  exact ⟨fp, r⟩
theorem lo_var (i : Nat) (e : env[i]? = some (.st w τ S x)) (hN : X.N[i]? = some nm := by rfl) (hv : Vis X.env.scope nm := by first | exact Or.inl rfl | exact Or.inr (Or.inl rfl) | exact Or.inr (Or.inr rfl)) (hd : (nm == ("__debug__" : Str)) = false := by decide) (hcd : (nm == ("__classdict__" : Str)) = false := by decide) :
    LO X (fun en => en[i]? = some (.st w τ S x)) env (.Name nm pos) S (fun _ : Unit => env) (fun (k : τ → Unit → Option Ω) => k x ()) := by
  refine fun C F H σs es σ k ω Q hK hl h hk q => tE.of X (pe_var hN hv hd hcd) ?_
  obtain ⟨v, fp, e1, r⟩ := h.lookF hl e
  refine ⟨v, e1, q x () v F H [] [] rfl hk h fun F'' H'' σ2 e2 env2 hg hl2 h2 => ?_⟩
  have h3 : ER C F'' H'' ((σ2 ++ σs) ++ σ) ((e2 ++ es) ++ env2) := by simpa [List.append_assoc] using h2
  obtain ⟨v', fp', e1', r'⟩ := h3.lookF (i := i) (τ := τ) (S := S) (x := x) (w := w) (by simp [hl, hl2]) hg
  rw [e1] at e1'; cases e1'
  exact ⟨fp', r'⟩
theorem lo_lk (i : Nat) (e : env[i]? = some (.lk τ S x)) (hN : X.N[i]? = some nm := by rfl) (hv : Vis X.env.scope nm := by first | exact Or.inl rfl | exact Or.inr (Or.inl rfl) | exact Or.inr (Or.inr rfl)) (hd : (nm == ("__debug__" : Str)) = false := by decide) (hcd : (nm == ("__classdict__" : Str)) = false := by decide) :
    LO X (fun en => en[i]? = some (.lk τ S x)) env (.Name nm pos) S (fun _ : Unit => env) (fun (k : τ → Unit → Option Ω) => k x ()) := by
  refine fun C F H σs es σ k ω Q hK hl h hk q => tE.of X (pe_var hN hv hd hcd) ?_
  obtain ⟨v, fp, e1, r⟩ := h.lookKF hl e
  refine ⟨v, e1, q x () v F H [] [] rfl hk h fun F'' H'' σ2 e2 env2 hg hl2 h2 => ?_⟩
  have h3 : ER C F'' H'' ((σ2 ++ σs) ++ σ) ((e2 ++ es) ++ env2) := by simpa [List.append_assoc] using h2
  obtain ⟨v', fp', e1', r'⟩ := h3.lookKF (i := i) (τ := τ) (S := S) (x := x) (by simp [hl, hl2]) hg
  rw [e1] at e1'; cases e1'
  exact ⟨fp', r'⟩
end
end Z

set_option Elab.async false
set_option linter.all false
set_option maxRecDepth 100000
namespace Z
open PySem PySem.Spec PyProof.Rows L2

/-- a check on the way: where it fails the walk is not followed -/
def ck {Ω : Type} (b : Bool) (k : Option Ω) : Option Ω := if b then k else none
theorem ck_some {Ω : Type} {b : Bool} {k : Option Ω} {ω : Ω} (h : ck b k = some ω) : b = true ∧ k = some ω := by
  unfold ck at h
  cases b with
  | true => exact ⟨rfl, by simpa using h⟩
  | false => simp at h
@[simp] theorem ck_true {Ω : Type} (k : Option Ω) : ck true k = k := rfl
theorem bind_some {α Ω : Type} {o : Option α} {k : α → Option Ω} {ω : Ω} (h : o.bind k = some ω) : ∃ a, o = some a ∧ k a = some ω := by
  cases o with
  | none => cases h
  | some a => exact ⟨a, rfl, h⟩

section
variable {X : Cx} {Ω : Type} {env : Env} {nm : Str} {pos : Pos} {a b : Expr} {P P1 P2 : Type} {τ τ1 τ2 α β : Type} {S : Stor τ} {S1 : Stor τ1} {S2 : Stor τ2} {E : Enc τ} {E1 : Enc τ1} {E2 : Enc τ2}
  {G : Env → Prop} {G1 : Env → Prop} {G2 : P1 → Env → Prop} {e1 : P1 → Env} {e2 : P1 → P2 → Env} {fa : (τ1 → P1 → Option Ω) → Option Ω} {fb : P1 → (τ2 → P2 → Option Ω) → Option Ω}

theorem lo_run (ha : LO X G env a S1 e1 fa) (g1 : ∀ p1, G (e1 p1)) {C : Ck} {F H : Hp} {σs : List (Option V)} {es : Env} {σ : List (Option V)} {k : τ1 → P1 → Option Ω} {ω : Ω} {R : V → Hp → Prop} (hK : C.K = X.K) (hl : σs.length = es.length)
    (h : ER C F H (σs ++ σ) (es ++ env)) (hk : fa k = some ω)
    (q : ∀ x p1 v F' H' fp, k x p1 = some ω → ER C F' H' (σs ++ σ) (es ++ e1 p1) → S1.rel C.K F' H' fp v x → R v H') : tE X a σ H R :=
  ha C F H σs es σ k ω R hK hl h hk fun x p1 v F' H' σx ex hlx hk' h' r' => by
    obtain ⟨fp, rr⟩ := r' F' H' [] [] (e1 p1) (g1 p1) rfl h'
    exact q x p1 v F' H' fp hk' (h'.popN hlx) rr
/-- two operands in a row -/
theorem op2_run (ha : LO X G1 env a S1 e1 fa) (hb : ∀ p1, LO X (G2 p1) (e1 p1) b S2 (e2 p1) (fb p1)) (g1 : ∀ p1 p2, G1 (e2 p1 p2)) (g2 : ∀ p1 p2, G2 p1 (e2 p1 p2))
    {C : Ck} {F H : Hp} {σs : List (Option V)} {es : Env} {σ : List (Option V)} {k : τ1 → P1 → τ2 → P2 → Option Ω} {ω : Ω} {R : V → V → Hp → Prop} (hK : C.K = X.K) (hl : σs.length = es.length)
    (h : ER C F H (σs ++ σ) (es ++ env)) (hk : (fa fun x p1 => fb p1 fun y p2 => k x p1 y p2) = some ω)
    (q : ∀ x p1 y p2 v u F' H' fp fq, k x p1 y p2 = some ω → ER C F' H' (σs ++ σ) (es ++ e2 p1 p2) → S1.rel C.K F' H' fp v x → S2.rel C.K F' H' fq u y → R v u H') :
    tE X a σ H fun v H1 => tE X b σ H1 fun u H2 => R v u H2 :=
  ha C F H σs es σ _ ω _ hK hl h hk fun x p1 v F' H' σx ex hlx hk' h' r' =>
    hb p1 C F' H' (σx ++ σs) (ex ++ es) σ _ ω _ hK (by simp [hl, hlx]) (by simpa [List.append_assoc] using h') hk' fun y p2 u F2 H2 σy ey hly hk2 h2 r2 => by
      have h3 : ER C F2 H2 (σy ++ (σx ++ (σs ++ σ))) (ey ++ (ex ++ (es ++ e2 p1 p2))) := by simpa [List.append_assoc] using h2
      obtain ⟨fp, rr⟩ := r' F2 H2 σy ey (e2 p1 p2) (g1 p1 p2) hly h3
      obtain ⟨fq, rq⟩ := r2 F2 H2 [] [] (e2 p1 p2) (g2 p1 p2) rfl h2
      exact q x p1 y p2 v u F2 H2 fp fq hk2 ((h3.popN hly).popN hlx) rr rq

/-! ### numbers -/
/-- an operator of two ints, by its check and its value -/
theorem lx_opI {op : Operator} {r : R2} {c : Int → Int → Bool} {g : Int → Int → Int} (ho : OpR X (binaryOp op) r) (hr : ∀ i j H (Q : VK), c i j = true → Q (.int (g i j)) H → r (.int i) (.int j) H Q)
    {fa : (Int → P1 → Option Ω) → Option Ω} {fb : P1 → (Int → P2 → Option Ω) → Option Ω} (ha : LX X env a (it eI) e1 fa) (hb : ∀ p1, LX X (e1 p1) b (it eI) (e2 p1) (fb p1)) :
    LX X env (.BinOp a op b pos) (it eI) (fun p : P1 × P2 => e2 p.1 p.2) (fun k => fa fun x p1 => fb p1 fun y p2 => ck (c x y) (k (g x y) (p1, p2))) :=
  fun C F H σs es σ k ω Q hK hl h hk q => tE.of X (pe_op ho (peC X) (peC X)) (op2_run (lo_of ha) (fun p1 => lo_of (hb p1)) (fun _ _ => trivial) (fun _ _ => trivial) hK hl h hk
    fun x p1 y p2 v u F' H' fp fq hk' h' r1 r2 => by
      obtain ⟨hc, hk'⟩ := ck_some hk'
      obtain ⟨_, r1⟩ := r1
      obtain ⟨_, r2⟩ := r2
      cases r1; cases r2
      exact hr x y H' Q hc (q _ (p1, p2) _ F' H' hk' (h'.pushSh (.int _))))
/-- .. that needs no check -/
theorem lx_opT {op : Operator} {r : R2} {g : Int → Int → Int} (ho : OpR X (binaryOp op) r) (hr : ∀ i j H (Q : VK), Q (.int (g i j)) H → r (.int i) (.int j) H Q)
    {fa : (Int → P1 → Option Ω) → Option Ω} {fb : P1 → (Int → P2 → Option Ω) → Option Ω} (ha : LX X env a (it eI) e1 fa) (hb : ∀ p1, LX X (e1 p1) b (it eI) (e2 p1) (fb p1)) :
    LX X env (.BinOp a op b pos) (it eI) (fun p : P1 × P2 => e2 p.1 p.2) (fun k => fa fun x p1 => fb p1 fun y p2 => k (g x y) (p1, p2)) :=
  fun C F H σs es σ k ω Q hK hl h hk q => tE.of X (pe_op ho (peC X) (peC X)) (op2_run (lo_of ha) (fun p1 => lo_of (hb p1)) (fun _ _ => trivial) (fun _ _ => trivial) hK hl h hk
    fun x p1 y p2 v u F' H' fp fq hk' h' r1 r2 => by
      obtain ⟨_, r1⟩ := r1
      obtain ⟨_, r2⟩ := r2
      cases r1; cases r2
      exact hr x y H' Q (q _ (p1, p2) _ F' H' hk' (h'.pushSh (.int _))))
section
variable {fa : (Int → P1 → Option Ω) → Option Ω} {fb : P1 → (Int → P2 → Option Ω) → Option Ω}
theorem lx_add (ha : LX X env a (it eI) e1 fa) (hb : ∀ p1, LX X (e1 p1) b (it eI) (e2 p1) (fb p1)) :
    LX X env (.BinOp a .Add b pos) (it eI) (fun p : P1 × P2 => e2 p.1 p.2) (fun k => fa fun x p1 => fb p1 fun y p2 => k (x + y) (p1, p2)) := lx_opT op_add (fun i j _ _ q => ⟨i, j, rfl, rfl, q⟩) ha hb
theorem lx_sub (ha : LX X env a (it eI) e1 fa) (hb : ∀ p1, LX X (e1 p1) b (it eI) (e2 p1) (fb p1)) :
    LX X env (.BinOp a .Sub b pos) (it eI) (fun p : P1 × P2 => e2 p.1 p.2) (fun k => fa fun x p1 => fb p1 fun y p2 => k (x - y) (p1, p2)) := lx_opT op_sub (fun i j _ _ q => ⟨i, j, rfl, rfl, q⟩) ha hb
/-- a product: one factor is below 2 ^ 64 -/
def mulOk (i j : Int) : Bool := decide ((-(2 ^ 64) < i ∧ i < 2 ^ 64) ∨ (-(2 ^ 64) < j ∧ j < 2 ^ 64))
def divOk (j : Int) : Bool := decide (j ≠ 0 ∧ j.natAbs < 1073741824)
def modOk (j : Int) : Bool := decide (j ≠ 0)
def powOk (i j : Int) : Bool := decide (0 ≤ j ∧ j ≤ 1000000 ∧ i.natAbs < 2 ^ 64)
theorem lx_mul (ha : LX X env a (it eI) e1 fa) (hb : ∀ p1, LX X (e1 p1) b (it eI) (e2 p1) (fb p1)) :
    LX X env (.BinOp a .Mult b pos) (it eI) (fun p : P1 × P2 => e2 p.1 p.2) (fun k => fa fun x p1 => fb p1 fun y p2 => ck (mulOk x y) (k (x * y) (p1, p2))) := lx_opI (c := mulOk) op_mul (fun i j _ _ c q => ⟨i, j, rfl, rfl, of_decide_eq_true (p := (-(2 ^ 64) < i ∧ i < 2 ^ 64) ∨ (-(2 ^ 64) < j ∧ j < 2 ^ 64)) c, q⟩) ha hb
theorem lx_fdiv (ha : LX X env a (it eI) e1 fa) (hb : ∀ p1, LX X (e1 p1) b (it eI) (e2 p1) (fb p1)) :
    LX X env (.BinOp a .FloorDiv b pos) (it eI) (fun p : P1 × P2 => e2 p.1 p.2) (fun k => fa fun x p1 => fb p1 fun y p2 => ck (divOk y) (k (x.fdiv y) (p1, p2))) := lx_opI (c := fun _ y => divOk y) op_fdivN (fun i j _ _ c q => ⟨i, j, rfl, rfl, of_decide_eq_true (p := j ≠ 0 ∧ j.natAbs < 1073741824) c, q⟩) ha hb
theorem lx_mod (ha : LX X env a (it eI) e1 fa) (hb : ∀ p1, LX X (e1 p1) b (it eI) (e2 p1) (fb p1)) :
    LX X env (.BinOp a .Mod b pos) (it eI) (fun p : P1 × P2 => e2 p.1 p.2) (fun k => fa fun x p1 => fb p1 fun y p2 => ck (modOk y) (k (x.fmod y) (p1, p2))) := lx_opI (c := fun _ y => modOk y) op_modN (fun i j _ _ c q => ⟨i, j, rfl, rfl, of_decide_eq_true c, q⟩) ha hb
theorem lx_pow (ha : LX X env a (it eI) e1 fa) (hb : ∀ p1, LX X (e1 p1) b (it eI) (e2 p1) (fb p1)) :
    LX X env (.BinOp a .Pow b pos) (it eI) (fun p : P1 × P2 => e2 p.1 p.2) (fun k => fa fun x p1 => fb p1 fun y p2 => ck (powOk x y) (k (x ^ y.toNat) (p1, p2))) := lx_opI (c := powOk) op_pow (fun i j _ _ c q => ⟨i, j, rfl, rfl, of_decide_eq_true (p := 0 ≤ j ∧ j ≤ 1000000 ∧ i.natAbs < 2 ^ 64) c, q⟩) ha hb
theorem lx_neg (ha : LX X env a (it eI) e1 fa) : LX X env (.UnaryOp .USub a pos) (it eI) e1 (fun k => fa fun x p1 => k (-x) p1) :=
  fun C F H σs es σ k ω Q hK hl h hk q => tE.of X (pe_un un_neg (peC X)) (lo_run (lo_of ha) (fun _ => trivial) hK hl h hk fun x p1 v F' H' fp hk' h' r => by
    obtain ⟨_, r⟩ := r
    cases r
    exact ⟨x, rfl, q _ p1 _ F' H' hk' (h'.pushSh (.int _))⟩)
end
/-! ### comparisons -/
theorem lc_cmp {op : CmpOp} {r : R2} {g : τ1 → τ2 → Bool} (ho : OpR X (compareOp op) r) (ha : LO X G1 env a S1 e1 fa) (hb : ∀ p1, LO X (G2 p1) (e1 p1) b S2 (e2 p1) (fb p1)) (g1 : ∀ p1 p2, G1 (e2 p1 p2)) (g2 : ∀ p1 p2, G2 p1 (e2 p1 p2))
    (hr : ∀ K F H fp fq v u x y (Q : VK), K = X.K → Same F H → S1.rel K F H fp v x → S2.rel K F H fq u y → Q (.bl (g x y)) H → r v u H Q) :
    LC X env op a b (fun p : P1 × P2 => e2 p.1 p.2) (fun k => fa fun x p1 => fb p1 fun y p2 => k (g x y) (p1, p2)) :=
  ⟨r, ho, fun C F H σs es σ k ω Q hK hl h hk q => op2_run ha hb g1 g2 hK hl h hk fun x p1 y p2 v u F' H' fp fq hk' h' r1 r2 =>
    hr C.K F' H' fp fq v u x y Q hK h'.sF r1 r2 (q _ (p1, p2) F' H' hk' h')⟩
/-- .. with a check -/
theorem lc_cmpC {op : CmpOp} {r : R2} {c g : τ1 → τ2 → Bool} (ho : OpR X (compareOp op) r) (ha : LO X G1 env a S1 e1 fa) (hb : ∀ p1, LO X (G2 p1) (e1 p1) b S2 (e2 p1) (fb p1)) (g1 : ∀ p1 p2, G1 (e2 p1 p2)) (g2 : ∀ p1 p2, G2 p1 (e2 p1 p2))
    (hr : ∀ K F H fp fq v u x y (Q : VK), K = X.K → Same F H → c x y = true → S1.rel K F H fp v x → S2.rel K F H fq u y → Q (.bl (g x y)) H → r v u H Q) :
    LC X env op a b (fun p : P1 × P2 => e2 p.1 p.2) (fun k => fa fun x p1 => fb p1 fun y p2 => ck (c x y) (k (g x y) (p1, p2))) :=
  ⟨r, ho, fun C F H σs es σ k ω Q hK hl h hk q => op2_run ha hb g1 g2 hK hl h hk fun x p1 y p2 v u F' H' fp fq hk' h' r1 r2 => by
    obtain ⟨hc, hk'⟩ := ck_some hk'
    exact hr C.K F' H' fp fq v u x y Q hK h'.sF hc r1 r2 (q _ (p1, p2) F' H' hk' h')⟩
theorem lx_cmp {op : CmpOp} {e' : P → Env} {f : (Bool → P → Option Ω) → Option Ω} (h : LC X env op a b e' f) (hm : behindInMarks op b = false) : LX X env (.Compare a [op] [b] pos) (it eB) e' f := by
  obtain ⟨r, ho, h⟩ := h
  exact fun C F H σs es σ k ω Q hK hl hr hk q => tE.of X (pe_cmpR ho (peC X) (peC X) hm) (h C F H σs es σ k ω Q hK hl hr hk fun c p F' H' hk' h' => q c p _ F' H' hk' (h'.pushSh (.bl _)))
theorem lt_cmp {op : CmpOp} {e' : P → Env} {f : (Bool → P → Option Ω) → Option Ω} (h : LC X env op a b e' f) (hm : behindInMarks op b = false) : LT X env (.Compare a [op] [b] pos) e' f := by
  obtain ⟨r, ho, h⟩ := h
  exact fun C F H σs es σ k ω Q hK hl hr hk q => tT.of X (pt_cmpR ho (peC X) (peC X) hm) (h C F H σs es σ k ω _ hK hl hr hk fun c p F' H' hk' h' => ⟨c, rfl, q c p F' H' hk' h'⟩)
section
variable {fa : (Int → P1 → Option Ω) → Option Ω} {fb : P1 → (Int → P2 → Option Ω) → Option Ω}
theorem lc_int {op : CmpOp} {r : R2} {g : Int → Int → Bool} (ho : OpR X (compareOp op) r) (hr : ∀ i j H (Q : VK), Q (.bl (g i j)) H → r (.int i) (.int j) H Q) (ha : LX X env a (it eI) e1 fa) (hb : ∀ p1, LX X (e1 p1) b (it eI) (e2 p1) (fb p1)) :
    LC X env op a b (fun p : P1 × P2 => e2 p.1 p.2) (fun k => fa fun x p1 => fb p1 fun y p2 => k (g x y) (p1, p2)) :=
  lc_cmp ho (lo_of ha) (fun p1 => lo_of (hb p1)) (fun _ _ => trivial) (fun _ _ => trivial) fun K F H fp fq v u x y Q _ _ r1 r2 q => by
    obtain ⟨_, r1⟩ := r1
    obtain ⟨_, r2⟩ := r2
    cases r1; cases r2
    exact hr x y H Q q
theorem lc_lt (ha : LX X env a (it eI) e1 fa) (hb : ∀ p1, LX X (e1 p1) b (it eI) (e2 p1) (fb p1)) : LC X env .Lt a b (fun p : P1 × P2 => e2 p.1 p.2) (fun k => fa fun x p1 => fb p1 fun y p2 => k (decide (x < y)) (p1, p2)) := lc_int op_lt (fun i j _ _ q => ⟨i, j, rfl, rfl, q⟩) ha hb
theorem lc_le (ha : LX X env a (it eI) e1 fa) (hb : ∀ p1, LX X (e1 p1) b (it eI) (e2 p1) (fb p1)) : LC X env .LtE a b (fun p : P1 × P2 => e2 p.1 p.2) (fun k => fa fun x p1 => fb p1 fun y p2 => k (decide (x ≤ y)) (p1, p2)) := lc_int op_le (fun i j _ _ q => ⟨i, j, rfl, rfl, q⟩) ha hb
theorem lc_gt (ha : LX X env a (it eI) e1 fa) (hb : ∀ p1, LX X (e1 p1) b (it eI) (e2 p1) (fb p1)) : LC X env .Gt a b (fun p : P1 × P2 => e2 p.1 p.2) (fun k => fa fun x p1 => fb p1 fun y p2 => k (decide (y < x)) (p1, p2)) := lc_int op_gt (fun i j _ _ q => ⟨i, j, rfl, rfl, q⟩) ha hb
theorem lc_ge (ha : LX X env a (it eI) e1 fa) (hb : ∀ p1, LX X (e1 p1) b (it eI) (e2 p1) (fb p1)) : LC X env .GtE a b (fun p : P1 × P2 => e2 p.1 p.2) (fun k => fa fun x p1 => fb p1 fun y p2 => k (decide (y ≤ x)) (p1, p2)) := lc_int op_ge (fun i j _ _ q => ⟨i, j, rfl, rfl, q⟩) ha hb
theorem lc_eqI (ha : LX X env a (it eI) e1 fa) (hb : ∀ p1, LX X (e1 p1) b (it eI) (e2 p1) (fb p1)) : LC X env .Eq a b (fun p : P1 × P2 => e2 p.1 p.2) (fun k => fa fun x p1 => fb p1 fun y p2 => k (decide (x = y)) (p1, p2)) :=
  lc_int op_eq (fun i j _ _ q => ⟨rfl, by simpa using q⟩) ha hb
theorem lc_neI (ha : LX X env a (it eI) e1 fa) (hb : ∀ p1, LX X (e1 p1) b (it eI) (e2 p1) (fb p1)) : LC X env .NotEq a b (fun p : P1 × P2 => e2 p.1 p.2) (fun k => fa fun x p1 => fb p1 fun y p2 => k (!decide (x = y)) (p1, p2)) :=
  lc_int op_ne (fun i j _ _ q => ⟨rfl, by simpa using q⟩) ha hb
end
/-! ### truth -/
theorem lt_val {e' : P → Env} {f : (Bool → P → Option Ω) → Option Ω} (h : LX X env a (it eB) e' f) (he : ∀ whole, isTrue a X.env whole = (do let v ← whole; standAt a.pos; holding [v] (truthy v)) := by intro _; rfl) : LT X env a e' f :=
  fun C F H σs es σ k ω Q hK hl hr hk q => tT.of X (pt_val (peC X) he) (lo_run (lo_of h) (fun _ => trivial) hK hl hr hk fun x p1 v F' H' fp hk' h' r => by
    obtain ⟨_, r⟩ := r
    cases r
    exact ⟨x, rfl, q x p1 F' H' hk' h'⟩)
theorem lt_not {e' : P → Env} {f : (Bool → P → Option Ω) → Option Ω} (h : LT X env a e' f) : LT X env (.UnaryOp .Not a pos) e' (fun k => f fun c p => k (!c) p) :=
  fun C F H σs es σ k ω Q hK hl hr hk q => tT.of X (pt_not (ptC X)) (h C F H σs es σ _ ω _ hK hl hr hk fun c p F' H' hk' h' => q _ p F' H' hk' h')
end
end Z

set_option Elab.async false
set_option linter.all false
set_option maxRecDepth 100000
namespace Z
open PySem PySem.Spec PyProof.Rows L2

/-! ### arguments -/
section
variable {X : Cx} {Ω : Type} {env : Env} {nm : Str} {pos : Pos} {a b e : Expr} {xs : List Expr} {P P1 P2 A : Type} {τ τ1 τ2 α β : Type} {S : Stor τ} {S1 : Stor τ1} {S2 : Stor τ2} {E : Enc τ} {E1 : Enc τ1} {E2 : Enc τ2}
  {G : Env → Prop} {G1 : Env → Prop} {G2 : P1 → Env → Prop} {e' : P → Env} {e1 : P1 → Env} {e2 : P1 → P2 → Env} {fa : (τ1 → P1 → Option Ω) → Option Ω} {fb : P1 → (τ2 → P2 → Option Ω) → Option Ω} {f : (τ → P → Option Ω) → Option Ω}

theorem la_nil : LA X env [] (fun _ : Unit => []) (fun _ : Unit => env) (fun (k : Unit → Unit → Option Ω) => k () ()) :=
  fun C F H σs es σ k ω Q hK hl h hk q => tAs.of X pa_nil (q () () [] F H hk rfl h)
theorem la_cons {sl : A → Env} {fr : P1 → (A → P2 → Option Ω) → Option Ω} (h1 : LX X env e S1 e1 fa) (h2 : ∀ p1, LA X (e1 p1) xs sl (e2 p1) (fr p1)) (hs : starEach (e :: xs) X.env = (false, eval e X.env) :: starEach xs X.env := by rfl) :
    LA X env (e :: xs) (fun p : τ1 × A => .st none τ1 S1 p.1 :: sl p.2) (fun p : P1 × P2 => e2 p.1 p.2) (fun k => fa fun x p1 => fr p1 fun r p2 => k (x, r) (p1, p2)) :=
  fun C F H σs es σ k ω Q hK hl h hk q => tAs.of X (pa_cons (peC X) (paC X) hs) (h1 C F H σs es σ _ ω _ hK hl h hk fun x p1 v F' H' hk' h' =>
    h2 p1 C F' H' (some v :: σs) (.st none τ1 S1 x :: es) σ _ ω _ hK (by simp [hl]) h' hk' fun r p2 vs F2 H2 hk2 hlv h3 => by
      refine q (x, r) (p1, p2) (v :: vs) F2 H2 hk2 (by simpa using hlv) ?_
      exact ER.rot (σt := vs.map some) (et := sl r) h3 hlv)
/-- a name by its value alone: lent to a call -/
theorem la_lend {sl : A → Env} {fr : (A → P → Option Ω) → Option Ω} (i : Nat) {w : Option V} {x : τ} (he : env[i]? = some (.st w τ S x)) (hN : X.N[i]? = some nm) (hv : Vis X.env.scope nm) (h2 : LA X env xs sl e' fr) (hd : (nm == ("__debug__" : Str)) = false := by decide) (hcd : (nm == ("__classdict__" : Str)) = false := by decide)
    (hs : starEach (Expr.Name nm pos :: xs) X.env = (false, eval (Expr.Name nm pos) X.env) :: starEach xs X.env := by rfl) :
    ∀ (C : Ck) (F H : Hp) (σs : List (Option V)) (es : Env) (σ : List (Option V)) (k : A → P → Option Ω) (ω : Ω) (Q : List V → Hp → Prop), C.K = X.K → σs.length = es.length → ER C F H (σs ++ σ) (es ++ env) → fr k = some ω →
    (∀ a p (v : V) (vs : List V) F' H', k a p = some ω → σ[i]? = some (some v) → (vs.map some).length = (sl a).length → ER C F' H' (vs.map some ++ (σs ++ σ)) (sl a ++ (es ++ e' p)) → Q (v :: vs) H') → tAs X (Expr.Name nm pos :: xs) σ H Q :=
  fun C F H σs es σ k ω Q hK hl h hk q => tAs.of X (pa_cons (peC X) (paC X) hs) (tE.of X (pe_var hN hv hd hcd) (by
    obtain ⟨v, fp, e1, r⟩ := h.lookF hl he
    exact ⟨v, e1, h2 C F H σs es σ k ω _ hK hl h hk fun a p vs F' H' hk' hlv h' => q a p v vs F' H' hk' e1 hlv h'⟩))
/-- shared slots and the data in them -/
inductive ShL : Env → List PyData → Prop
  | nil : ShL [] []
  | cons {τ : Type} {E : Enc τ} {x : τ} {en : Env} {ds : List PyData} : ShL en ds → ShL (.st none τ (it E) x :: en) (E.enc x :: ds)
theorem ShL.rep {C : Ck} {F H : Hp} : ∀ {sl : Env} {ds : List PyData}, ShL sl ds → ∀ {vs : List V} {σ : List (Option V)} {env : Env}, (vs.map some).length = sl.length → ER C F H (vs.map some ++ σ) (sl ++ env) → RepAll C.K F vs ds
  | _, _, .nil, vs, σ, env, hl, h => by
    cases vs with
    | nil => exact .nil
    | cons v vs => simp at hl
  | _, _, .cons r, vs, σ, env, hl, h => by
    cases vs with
    | nil => simp at hl
    | cons v vs =>
      obtain ⟨v', fp, e1, q⟩ := h.look (i := 0) rfl
      simp at e1; subst e1
      exact .cons q.2 (r.rep (by simpa using hl) h.pop)
theorem RepAll.zero {K : Fg} {F : Hp} {τ : Type} {E : Enc τ} {H : Hp} : ∀ {vs : List V} {xs : List τ}, RepAll K F vs (xs.map E.enc) → RelAll ((it E).rel K F H) [] vs xs
  | [], [], _ => .nil
  | [], _ :: _, h => by cases h
  | _ :: _, [], h => by cases h
  | v :: vs, x :: xs, h => by
    cases h with
    | cons h1 h2 => exact RelAll.cons (fp := []) (fps := []) ⟨rfl, h1⟩ (RepAll.zero h2)
theorem RelAll.zero {K : Fg} {F : Hp} {τ : Type} {E : Enc τ} {H : Hp} : ∀ {fp : List Addr} {vs : List V} {xs : List τ}, RelAll ((it E).rel K F H) fp vs xs → fp = [] ∧ RepAll K F vs (xs.map E.enc)
  | _, _, _, .nil => ⟨rfl, .nil⟩
  | _, _, _, .cons h r => by
    obtain ⟨e, q⟩ := RelAll.zero r
    obtain ⟨e2, q2⟩ := h
    exact ⟨by rw [e, e2]; rfl, .cons q2 q⟩
/-- a tuple -/
theorem lx_tup {sl : A → Env} {fs : (A → P → Option Ω) → Option Ω} {j : Nat} (h : LA X env xs sl e' fs) (E : Enc τ) (g : A → τ) (ds : A → List PyData) (hd : ∀ a, ShL (sl a) (ds a)) (he : ∀ a, E.enc (g a) = .tuple (ds a)) (hz : xs.length ≤ 1000 := by decide) (hz2 : ∀ a, (sl a).length = xs.length := by intro _; rfl) :
    LX X env (.Tuple xs j pos) (it E) e' (fun k => fs fun a p => k (g a) p) :=
  fun C F H σs es σ k ω Q hK hl hr hk q => tE.of X (pe_tup (paC X)) (h C F H σs es σ _ ω _ hK hl hr hk fun a p vs F' H' hk' hlv h' => by
    refine ⟨?_, fun t nt => ?_⟩
    · have := hz2 a; simp at hlv; exact Nat.le_of_lt (small1000 (by omega))
    · have r := (hd a).rep hlv h'
      refine q (g a) p (.ref t) (upd F' t (.tup vs)) _ hk' (((h'.popN hlv).newF nt).pushSh ?_)
      rw [he]
      exact .tup (SqT.of upd_same) (r.mono (same_new ((h'.popN hlv).fnone nt))))
/-- a list of shared things: a new one, of one's own -/
theorem lx_list {sl : A → Env} {fs : (A → P → Option Ω) → Option Ω} (h : LA X env xs sl e' fs) (E : Enc τ) (g : A → List τ) (hd : ∀ a, ShL (sl a) ((g a).map E.enc)) (hz : xs.length ≤ 1000 := by decide) (hz2 : ∀ a, (sl a).length = xs.length := by intro _; rfl) :
    LX X env (.List xs pos) (ls (it E)) e' (fun k => fs fun a p => k (g a) p) :=
  fun C F H σs es σ k ω Q hK hl hr hk q => tE.of X (pe_lst (paC X)) (h C F H σs es σ _ ω _ hK hl hr hk fun a p vs F' H' hk' hlv h' => by
    refine ⟨?_, fun t nt => ?_⟩
    · have := hz2 a; simp at hlv; exact Nat.le_of_lt (small1000 (by omega))
    · have r := (hd a).rep hlv h'
      exact q (g a) p (.ref t) F' _ hk' ((h'.popN hlv).newOw nt ⟨t, vs, [], rfl, upd_same, r.zero, rfl⟩))

/-! ### sequences that are read -/
/-- a list that is tracked -/
structure LVm (S : Stor τ) (S1 : Stor α) (g : τ → List α) : Prop where
  view : ∀ {K : Fg} {F H : Hp} {fp : List Addr} {v : V} {x : τ}, Same F H → S.rel K F H fp v x → ∃ p vs fps, v = .ref p ∧ H p = some (.lst vs) ∧ RelAll (S1.rel K F H) fps vs (g x)
/-- a list -/
structure LVw (S : Stor τ) (S1 : Stor α) (g : τ → List α) : Prop where
  view : ∀ {K : Fg} {F H : Hp} {fp : List Addr} {v : V} {x : τ}, Same F H → S.rel K F H fp v x → ∃ p vs fps, v = .ref p ∧ SqL K H p vs ∧ RelAll (S1.rel K F H) fps vs (g x)
structure TVw (S : Stor τ) (S1 : Stor α) (g : τ → List α) : Prop where
  view : ∀ {K : Fg} {F H : Hp} {fp : List Addr} {v : V} {x : τ}, Same F H → S.rel K F H fp v x → ∃ p vs fps, v = .ref p ∧ SqT K H p vs ∧ RelAll (S1.rel K F H) fps vs (g x)
theorem LVm.w {S1 : Stor α} {g : τ → List α} (h : LVm S S1 g) : LVw S S1 g := ⟨fun s r => let ⟨p, vs, fps, e, h1, h2⟩ := h.view s r; ⟨p, vs, fps, e, SqL.of h1, h2⟩⟩
theorem lm_sh : LVm (it (eL E)) (it E) id := ⟨fun {K F H fp v x} s r => by
  obtain ⟨_, r⟩ := r
  generalize hd : (eL E).enc x = d at r
  cases r with
  | lst h1 h2 =>
    simp only [eL] at hd
    injection hd with hd
    subst hd
    exact ⟨_, _, _, rfl, s _ _ h1, h2.zero⟩
  | _ => simp [eL] at hd⟩
theorem lm_ow {S1 : Stor α} : LVm (ls S1) S1 id := ⟨fun {K F H fp v x} s r => by
  obtain ⟨p, vs, fps, rfl, h, q, rfl⟩ := r
  exact ⟨p, vs, fps, rfl, h, q⟩⟩
theorem tv_sh : TVw (it (eV E)) (it E) id := ⟨fun {K F H fp v x} s r => by
  obtain ⟨_, r⟩ := r
  generalize hd : (eV E).enc x = d at r
  cases r with
  | tup h1 h2 =>
    simp only [eV] at hd
    injection hd with hd
    subst hd
    exact ⟨_, _, _, rfl, same_sqT s h1, h2.zero⟩
  | _ => simp [eV] at hd⟩
theorem atI_map {α β : Type} (f : α → β) (xs : List α) (i : Int) : atI (xs.map f) i = (atI xs i).map f := by
  unfold atI
  rw [List.length_map]
  cases ixN xs.length i with
  | none => rfl
  | some j => simp
theorem RepAll.at {K : Fg} {F : Hp} {vs : List V} {xs : List τ} {i : Int} {y : τ} (h : RepAll K F vs (xs.map E.enc)) (e : atI xs i = some y) : ∃ v, atI vs i = some v ∧ Rep K F v (E.enc y) := by
  have hl : vs.length = xs.length := by have := h.length; simpa using this
  unfold atI at e ⊢
  rw [hl]
  cases hj : ixN xs.length i with
  | none => rw [hj] at e; cases e
  | some j =>
    rw [hj] at e
    have e' : xs[j]? = some y := e
    obtain ⟨v, h1, h2⟩ := h.get (i := j) (d := E.enc y) (by rw [List.getElem?_map, e']; rfl)
    exact ⟨v, h1, h2⟩
/-- xs[i] of a list -/
theorem lx_ix {g : τ1 → List α} {E1 : Enc α} {fb : P1 → (Int → P2 → Option Ω) → Option Ω} (hv : LVw S1 (it E1) g) (ha : LO X G env a S1 e1 fa) (hb : ∀ p1, LX X (e1 p1) b (it eI) (e2 p1) (fb p1)) (hg : ∀ p1 p2, G (e2 p1 p2)) (hp : PlainIx b := by exact fun _ _ => rfl) :
    LX X env (.Subscript a b pos) (it E1) (fun p : P1 × P2 => e2 p.1 p.2) (fun k => fa fun x p1 => fb p1 fun i p2 => (atI (g x) i).bind fun y => k y (p1, p2)) :=
  fun C F H σs es σ k ω Q hK hl h hk q => tE.of X (pe_ix ix_list (peC X) (peC X) hp) (op2_run ha (fun p1 => lo_of (hb p1)) hg (fun _ _ => trivial) hK hl h hk
    fun x p1 i p2 v u F' H' fp fq hk' h' r1 r2 => by
      obtain ⟨y, hy, hk'⟩ := bind_some hk'
      obtain ⟨_, r2⟩ := r2
      cases r2
      obtain ⟨p, vs, fps, rfl, hs, ra⟩ := hv.view h'.sF r1
      obtain ⟨w, hw, rw'⟩ := ra.zero.2.at hy
      exact ⟨p, vs, i, w, rfl, rfl, by rw [← hK]; exact hs, hw, q y (p1, p2) w F' H' hk' (h'.pushSh rw')⟩)
/-- .. of a tuple of one kind -/
theorem lx_ixV {g : τ1 → List α} {E1 : Enc α} {fb : P1 → (Int → P2 → Option Ω) → Option Ω} (hv : TVw S1 (it E1) g) (ha : LO X G env a S1 e1 fa) (hb : ∀ p1, LX X (e1 p1) b (it eI) (e2 p1) (fb p1)) (hg : ∀ p1 p2, G (e2 p1 p2)) (hp : PlainIx b := by exact fun _ _ => rfl) :
    LX X env (.Subscript a b pos) (it E1) (fun p : P1 × P2 => e2 p.1 p.2) (fun k => fa fun x p1 => fb p1 fun i p2 => (atI (g x) i).bind fun y => k y (p1, p2)) :=
  fun C F H σs es σ k ω Q hK hl h hk q => tE.of X (pe_ix ix_tup (peC X) (peC X) hp) (op2_run ha (fun p1 => lo_of (hb p1)) hg (fun _ _ => trivial) hK hl h hk
    fun x p1 i p2 v u F' H' fp fq hk' h' r1 r2 => by
      obtain ⟨y, hy, hk'⟩ := bind_some hk'
      obtain ⟨_, r2⟩ := r2
      cases r2
      obtain ⟨p, vs, fps, rfl, hs, ra⟩ := hv.view h'.sF r1
      obtain ⟨w, hw, rw'⟩ := ra.zero.2.at hy
      exact ⟨p, vs, i, w, rfl, rfl, by rw [← hK]; exact hs, hw, q y (p1, p2) w F' H' hk' (h'.pushSh rw')⟩)
/-- the n-th part of a tuple that has parts of its own kinds -/
structure Part (E : Enc τ) (n : Int) (E1 : Enc α) (g : τ → α) : Prop where
  is : ∀ x, ∃ ds, E.enc x = .tuple ds ∧ atI ds n = some (E1.enc (g x))
theorem Rep.tup_inv {K : Fg} {F : Hp} {v : V} {ds : List PyData} (h : Rep K F v (.tuple ds)) : ∃ p vs, v = .ref p ∧ SqT K F p vs ∧ RepAll K F vs ds := by
  cases h with
  | tup h1 h2 => exact ⟨_, _, rfl, h1, h2⟩
theorem Rep.lst_inv {K : Fg} {F : Hp} {v : V} {ds : List PyData} (h : Rep K F v (.list ds)) : ∃ p vs, v = .ref p ∧ F p = some (.lst vs) ∧ RepAll K F vs ds := by
  cases h with
  | lst h1 h2 => exact ⟨_, _, rfl, h1, h2⟩
theorem RepAll.atD {K : Fg} {F : Hp} {vs : List V} {ds : List PyData} {i : Int} {y : PyData} (h : RepAll K F vs ds) (e : atI ds i = some y) : ∃ v, atI vs i = some v ∧ Rep K F v y := by
  have hl : vs.length = ds.length := h.length
  unfold atI at e ⊢
  rw [hl]
  cases hj : ixN ds.length i with
  | none => rw [hj] at e; cases e
  | some j =>
    rw [hj] at e
    exact h.get e
theorem lx_part {n : Int} {g : τ1 → α} {E' : Enc α} {j : Nat} {cp : Pos} (hp : Part E1 n E' g) (ha : LX X env a (it E1) e1 fa) :
    LX X env (.Subscript a (.Constant (.int n) j cp) pos) (it E') e1 (fun k => fa fun x p1 => k (g x) p1) :=
  fun C F H σs es σ k ω Q hK hl h hk q => tE.of X (pe_ix ix_tup (peC X) pe_int fun _ _ => rfl) (lo_run (lo_of ha) (fun _ => trivial) hK hl h hk
    fun x p1 v F' H' fp hk' h' r1 => by
      obtain ⟨_, r1⟩ := r1
      obtain ⟨ds, e1, e2⟩ := hp.is x
      rw [e1] at r1
      obtain ⟨p, vs, rfl, h1, h2⟩ := r1.tup_inv
      obtain ⟨w, hw, rw'⟩ := h2.atD e2
      exact ⟨p, vs, n, w, rfl, rfl, by rw [← hK]; exact same_sqT h'.sF h1, hw, q (g x) p1 w F' H' hk' (h'.pushSh rw')⟩)
/-- .. n below 0: -1 -/
theorem lx_partN {n : Int} {g : τ1 → α} {E' : Enc α} {j : Nat} {cp up : Pos} (hp : Part E1 (-n) E' g) (ha : LX X env a (it E1) e1 fa) :
    LX X env (.Subscript a (.UnaryOp .USub (.Constant (.int n) j cp) up) pos) (it E') e1 (fun k => fa fun x p1 => k (g x) p1) :=
  fun C F H σs es σ k ω Q hK hl h hk q => tE.of X (pe_ix ix_tup (peC X) (pe_un un_neg pe_int) fun _ _ => rfl) (lo_run (lo_of ha) (fun _ => trivial) hK hl h hk
    fun x p1 v F' H' fp hk' h' r1 => by
      obtain ⟨_, r1⟩ := r1
      obtain ⟨ds, e1, e2⟩ := hp.is x
      rw [e1] at r1
      obtain ⟨p, vs, rfl, h1, h2⟩ := r1.tup_inv
      obtain ⟨w, hw, rw'⟩ := h2.atD e2
      exact ⟨n, rfl, p, vs, -n, w, rfl, rfl, by rw [← hK]; exact same_sqT h'.sF h1, hw, q (g x) p1 w F' H' hk' (h'.pushSh rw')⟩)
theorem part2_0 {A : Enc α} {B : Enc β} : Part (eT2 A B) 0 A (·.1) := ⟨fun _ => ⟨_, rfl, rfl⟩⟩
theorem part2_1 {A : Enc α} {B : Enc β} : Part (eT2 A B) 1 B (·.2) := ⟨fun _ => ⟨_, rfl, rfl⟩⟩
theorem part3_0 {γ : Type} {A : Enc α} {B : Enc β} {D : Enc γ} : Part (eT3 A B D) 0 A (·.1) := ⟨fun _ => ⟨_, rfl, rfl⟩⟩
theorem part3_1 {γ : Type} {A : Enc α} {B : Enc β} {D : Enc γ} : Part (eT3 A B D) 1 B (·.2.1) := ⟨fun _ => ⟨_, rfl, rfl⟩⟩
theorem part3_2 {γ : Type} {A : Enc α} {B : Enc β} {D : Enc γ} : Part (eT3 A B D) 2 D (·.2.2) := ⟨fun _ => ⟨_, rfl, rfl⟩⟩
theorem part4_0 {γ δ : Type} {A : Enc α} {B : Enc β} {D : Enc γ} {D' : Enc δ} : Part (eT4 A B D D') 0 A (·.1) := ⟨fun _ => ⟨_, rfl, rfl⟩⟩
theorem part4_1 {γ δ : Type} {A : Enc α} {B : Enc β} {D : Enc γ} {D' : Enc δ} : Part (eT4 A B D D') 1 B (·.2.1) := ⟨fun _ => ⟨_, rfl, rfl⟩⟩
theorem part4_2 {γ δ : Type} {A : Enc α} {B : Enc β} {D : Enc γ} {D' : Enc δ} : Part (eT4 A B D D') 2 D (·.2.2.1) := ⟨fun _ => ⟨_, rfl, rfl⟩⟩
theorem part4_3 {γ δ : Type} {A : Enc α} {B : Enc β} {D : Enc γ} {D' : Enc δ} : Part (eT4 A B D D') 3 D' (·.2.2.2) := ⟨fun _ => ⟨_, rfl, rfl⟩⟩
end
end Z

set_option Elab.async false
set_option linter.all false
set_option maxRecDepth 100000
namespace Z
open PySem PySem.Spec PyProof.Rows L2

/-! ### targets -/
def Eqo (ix : List Nat) (σ σ' : List (Option V)) : Prop := σ'.length = σ.length ∧ ∀ j, j ∉ ix → σ'[j]? = σ[j]?
theorem Eqo.refl (ix : List Nat) (σ : List (Option V)) : Eqo ix σ σ := ⟨rfl, fun _ _ => rfl⟩
theorem Eqo.trans {ix : List Nat} {a b c : List (Option V)} (h : Eqo ix a b) (g : Eqo ix b c) : Eqo ix a c := ⟨g.1.trans h.1, fun j m => (g.2 j m).trans (h.2 j m)⟩
theorem Eqo.mono {ix iy : List Nat} {a b : List (Option V)} (h : Eqo ix a b) (s : ∀ j ∈ ix, j ∈ iy) : Eqo iy a b := ⟨h.1, fun j m => h.2 j fun z => m (s j z)⟩
theorem Eqo.set {σ : List (Option V)} {i : Nat} {o : Option V} : Eqo [i] σ (σ.set i o) := ⟨by simp, fun j m => List.getElem?_set_ne (by simp at m; omega)⟩
theorem wipe_get (σ : List (Option V)) : ∀ (vs : List Nat) (j : Nat), (wipe σ vs)[j]? = if j ∈ vs then (if j < σ.length then some none else none) else σ[j]?
  | [], j => by simp [wipe]
  | v :: vs, j => by
    unfold wipe
    by_cases e : v = j
    · subst e
      by_cases hl : v < σ.length
      · rw [List.getElem?_set_self (by rw [wipe_length]; exact hl)]; simp [hl]
      · rw [List.getElem?_eq_none (by rw [List.length_set, wipe_length]; omega)]; simp [hl]
    · rw [List.getElem?_set_ne e, wipe_get σ vs j]
      have : (j ∈ v :: vs) = (j ∈ vs) := by simp; intro z; exact absurd z.symm e
      simp only [this]
theorem Eqo.wipe {ix : List Nat} {a b : List (Option V)} (h : Eqo ix a b) : wipe b ix = wipe a ix := by
  apply List.ext_getElem?
  intro j
  rw [wipe_get, wipe_get, h.1]
  by_cases m : j ∈ ix
  · rw [if_pos m, if_pos m]
  · rw [if_neg m, if_neg m]; exact h.2 j m
section
variable (X : Cx)
def tG (tg : Expr) : TG := fun v σ H Q => ∀ pins s u, Inv X pins σ H s → RelV v u → wpAny (model X.prog X.w) X.A (assign tg X.env u) (fun _ s' => ∃ σ' H', Inv X pins σ' H' s' ∧ Q σ' H') X.xe s
def tGs (ts : List Expr) : TGs := fun vs σ H Q => ∀ pins s us, Inv X pins σ H s → Vals vs us → wpAny (model X.prog X.w) X.A (assignInOrder ((assignEach ts X.env).map (·.2)) us) (fun _ s' => ∃ σ' H', Inv X pins σ' H' s' ∧ Q σ' H') X.xe s
theorem pgC {tg : Expr} : PG X tg (tG X tg) := ⟨fun pins s σ H v u Q I r h => h pins s u I r⟩
theorem pgsC {ts : List Expr} : PGs X ts (tGs X ts) := ⟨fun pins s σ H vs us Q I r h => h pins s us I r⟩
theorem tG.of {tg : Expr} {t : TG} {v : V} {σ : L2.St} {H : Hp} {Q : L2.St → Hp → Prop} (h : PG X tg t) (q : t v σ H Q) : tG X tg v σ H Q := fun pins s u I r => h.run pins s σ H v u Q I r q
theorem tGs.of {ts : List Expr} {t : TGs} {vs : List V} {σ : L2.St} {H : Hp} {Q : L2.St → Hp → Prop} (h : PGs X ts t) (q : t vs σ H Q) : tGs X ts vs σ H Q := fun pins s us I r => h.run pins s σ H vs us Q I r q
/-- a target: where its value goes -/
def LG (ix : List Nat) (env : Env) (tg : Expr) {τ : Type} (S : Stor τ) (envT : τ → Env) : Prop :=
  ∀ (C : Ck) (F H : Hp) (σs : List (Option V)) (es : Env) (σ : List (Option V)) (v : V) (a : τ) (Q : L2.St → Hp → Prop), C.K = X.K → σs.length = es.length → ER C F H (some v :: (σs ++ σ)) (.st none τ S a :: (es ++ env)) →
    (∀ σ', Eqo ix σ σ' → ER C F H (σs ++ σ') (es ++ envT a) → Q σ' H) → tG X tg v σ H Q
/-- targets for the parts of a tuple -/
def LGs (ix : List Nat) (env : Env) (tgs : List Expr) {A : Type} (sl : A → Env) (envT : A → Env) : Prop :=
  ∀ (C : Ck) (F H : Hp) (σs : List (Option V)) (es : Env) (σ : List (Option V)) (vs : List V) (a : A) (Q : L2.St → Hp → Prop), C.K = X.K → σs.length = es.length → (vs.map some).length = (sl a).length → ER C F H (vs.map some ++ (σs ++ σ)) (sl a ++ (es ++ env)) →
    (∀ σ', Eqo ix σ σ' → ER C F H (σs ++ σ') (es ++ envT a) → Q σ' H) → tGs X tgs vs σ H Q
end
section
variable {X : Cx} {Ω : Type} {env : Env} {nm : Str} {pos : Pos} {a b e tg : Expr} {xs tgs : List Expr} {P P1 P2 A : Type} {τ τ1 τ2 α β : Type} {S : Stor τ} {S1 : Stor τ1} {S2 : Stor τ2} {E : Enc τ} {E1 : Enc τ1} {E2 : Enc τ2} {ix : List Nat}
theorem lg_name (i : Nat) (hN : X.N.Nodup) (hi : X.N[i]? = some nm := by rfl) (hx : Loc X.env.scope nm := by first | exact Or.inl rfl | exact Or.inr rfl) (hl : i < env.length := by exact (Nat.lt_of_sub_eq_succ rfl)) (hf : X.fn nm = true ∨ X.env.scope.names.lookup nm = some .local := by first | exact .inl rfl | exact .inr rfl) : LG X [i] env (.Name nm pos) S (fun a => env.set i (.st none τ S a)) :=
  fun C F H σs es σ v a Q hK hls h q => tG.of X (pg_name hN hi hx hf) (q _ Eqo.set (h.asg hls hl))
theorem lgs_nil : LGs X [] env [] (fun _ : Unit => []) (fun _ : Unit => env) := fun C F H σs es σ vs a Q hK hl hv h q => tGs.of X pgs_nil (by
  cases vs with
  | nil => exact ⟨rfl, q σ (Eqo.refl _ _) h⟩
  | cons v vs => simp at hv)
theorem lgs_cons {i1 i2 : List Nat} {env1 : τ → Env} {sl : A → Env} {env2 : τ → A → Env} (h1 : LG X i1 env tg S env1) (h2 : ∀ x, LGs X i2 (env1 x) tgs sl (env2 x))
    (hs : (assignEach (tg :: tgs) X.env).map (·.2) = assign tg X.env :: (assignEach tgs X.env).map (·.2) := by rfl) : LGs X (i1 ++ i2) env (tg :: tgs) (fun p : τ × A => .st none τ S p.1 :: sl p.2) (fun p : τ × A => env2 p.1 p.2) :=
  fun C F H σs es σ vs a Q hK hl hv h q => tGs.of X (pgs_cons (pgC X) (pgsC X) hs) (by
    cases vs with
    | nil => simp at hv
    | cons v vs =>
      have hv' : (vs.map some).length = (sl a.2).length := by simpa using hv
      refine ⟨v, vs, rfl, h1 C F H (vs.map some ++ σs) (sl a.2 ++ es) σ v a.1 _ hK (by simp [hl]; simpa using hv') (by simpa [List.append_assoc] using h) fun σ' e1 h' => ?_⟩
      exact h2 a.1 C F H σs es σ' vs a.2 Q hK hl hv' (by simpa [List.append_assoc] using h') fun σ2 e2 h3 => q σ2 ((e1.mono fun j m => List.mem_append_left _ m).trans (e2.mono fun j m => List.mem_append_right _ m)) h3)
/-- data that stand on the stack as shared slots -/
theorem ER.pushAll {C : Ck} {F H : Hp} : ∀ {sl : Env} {ds : List PyData}, ShL sl ds → ∀ {vs : List V} {σ : List (Option V)} {env : Env}, RepAll C.K F vs ds → ER C F H σ env → (vs.map some).length = sl.length ∧ ER C F H (vs.map some ++ σ) (sl ++ env)
  | _, _, .nil, _, σ, env, r, h => by cases r; exact ⟨rfl, h⟩
  | _, _, .cons q, _, σ, env, r, h => by
    cases r with
    | cons r1 r2 =>
      obtain ⟨e, h'⟩ := ER.pushAll q r2 h
      exact ⟨by simpa using e, h'.pushSh r1⟩
theorem lg_tup {sl : A → Env} {envT : A → Env} {j n : Nat} (h : LGs X ix env tgs sl envT) (g : τ → A) (ds : A → List PyData) (hd : ∀ a, ShL (sl a) (ds a)) (he : ∀ x, E.enc x = .tuple (ds (g x))) (hc : X.calm = true)
    (hz : ∀ a, (sl a).length = n) (hn : (assignEach tgs X.env).length = n := by rfl) (hst : (assignEach tgs X.env).findIdx? (·.1) = none := by rfl) : LG X ix env (.Tuple tgs j pos) (it E) (fun x => envT (g x)) :=
  fun C F H σs es σ v a Q hK hl hr q => tG.of X (pg_tup hc (pgsC X) hn hst) (by
    obtain ⟨v', fp, e1, r⟩ := hr.look (i := 0) rfl
    simp at e1; subst e1
    obtain ⟨_, r⟩ := r
    rw [he] at r
    obtain ⟨p, vs, rfl, h1, h2⟩ := r.tup_inv
    obtain ⟨hlv, h'⟩ := ER.pushAll (hd (g a)) h2 hr.pop
    have hl2 : vs.length = n := by have := hz (g a); simp at hlv; omega
    exact ⟨p, vs, rfl, by rw [← hK]; exact same_sqT hr.sF h1, hl2, h C F H σs es σ vs (g a) Q hK hl hlv h' q⟩)
end

/-! ### what is walked -/
section
variable (X : Cx) {Ω : Type}
def tI (tg iter : Expr) : TI := fun σ H R => ∀ pins s, Inv X pins σ H s → wpAny (model X.prog X.w) X.A (eval iter X.env) (fun v s1 => wpAny (model X.prog X.w) X.A (pyIter v) (PIE X pins σ tg R) X.xe s1) X.xe s
theorem piC {tg iter : Expr} : PI X tg iter (tI X tg iter) := ⟨fun pins s σ H R I h => h pins s I⟩
theorem tI.of {tg iter : Expr} {t : TI} {σ : L2.St} {H : Hp} {R : It → Hp → Prop} (h : PI X tg iter t) (q : t σ H R) : tI X tg iter σ H R := fun pins s I => h.run pins s σ H R I q
/-- J yields xs, as long as the stack's top stands; each item may make new things -/
structure Yields (C : Ck) {α : Type} (S : Stor α) (J : It) (xs : List α) (σx : List (Option V)) (ex : Env) : Prop where
  len : σx.length = ex.length
  go : ∀ (i : Nat) (F H : Hp) (σ2 σb : List (Option V)) (e2 eb : Env), σ2.length = e2.length → ER C F H (σ2 ++ (σx ++ σb)) (e2 ++ (ex ++ eb)) →
    (∀ x, xs[i]? = some x → J.go i H ∧ ∀ v H', J.yld i H v H' → ∃ F', ER C F' H' (some v :: (σ2 ++ (σx ++ σb))) (.st none α S x :: (e2 ++ (ex ++ eb)))) ∧ (xs[i]? = none → J.stop i H)
def LI (env : Env) (tg iter : Expr) {α : Type} (S : Stor α) {P : Type} (env' : P → Env) (f : (List α → P → Option Ω) → Option Ω) : Prop :=
  ∀ (C : Ck) (F H : Hp) (σs : List (Option V)) (es : Env) (σ : List (Option V)) (k : List α → P → Option Ω) (ω : Ω) (R : It → Hp → Prop), C.K = X.K → σs.length = es.length → ER C F H (σs ++ σ) (es ++ env) → f k = some ω →
    (∀ xs p J F' H' (σx : List (Option V)) (ex : Env), k xs p = some ω → ER C F' H' (σx ++ (σs ++ σ)) (ex ++ (es ++ env' p)) → Yields C S J xs σx ex → R J H') → tI X tg iter σ H R
end
section
variable {X : Cx} {Ω : Type} {env : Env} {nm : Str} {pos : Pos} {a b e tg : Expr} {xs tgs : List Expr} {P P1 P2 A : Type} {τ τ1 τ2 α β : Type} {S : Stor τ} {S1 : Stor τ1} {S2 : Stor τ2} {E : Enc τ} {E1 : Enc τ1} {E2 : Enc τ2} {ix : List Nat} {e' : P → Env} {e1 : P1 → Env} {e2 : P1 → P2 → Env}
theorem li_list {g : τ → List α} {Ea : Enc α} {f : (τ → P → Option Ω) → Option Ω} (hv : LVw S (it Ea) g) (h : LX X env e S e' f) : LI X env tg e (it Ea) e' (fun k => f fun x p => k (g x) p) :=
  fun C F H σs es σ k ω R hK hl hr hk q => tI.of X (pi_list (peC X)) (h C F H σs es σ _ ω _ hK hl hr hk fun x p v F' H' hk' h' => by
    obtain ⟨v', fp, e1, r⟩ := h'.look (i := 0) rfl
    simp at e1; subst e1
    obtain ⟨p0, vs, fps, rfl, hs, ra⟩ := hv.view h'.sF r
    refine ⟨p0, rfl, ⟨vs, by rw [← hK]; exact hs⟩, q (g x) p (Itl X.K p0) F' H' [some (.ref p0)] [.st none τ S x] hk' h' ⟨rfl, fun i F2 H2 σ2 σb e2 eb hl2 h2 => ?_⟩⟩
    obtain ⟨v', fp', e1, r'⟩ := h2.look (i := e2.length + 0) (by rw [at_app _ rfl]; rfl)
    rw [at_app _ hl2] at e1
    simp at e1; subst e1
    obtain ⟨p1, ws, fps', e3, hs', ra'⟩ := hv.view h2.sF r'
    cases e3
    rw [hK] at hs'
    have rp := ra'.zero.2
    refine ⟨fun y hy => ?_, fun hn => ?_⟩
    · obtain ⟨w, hw, rw'⟩ := rp.get (i := i) (d := Ea.enc y) (by rw [List.getElem?_map, hy]; rfl)
      refine ⟨⟨ws, w, hs', hw⟩, fun v H' hy' => ⟨F2, ?_⟩⟩
      obtain ⟨e4, hy'⟩ := hy'
      have := hy' ws hs'
      rw [hw] at this; cases this
      rw [e4]
      exact h2.pushSh rw'
    · refine ⟨ws, hs', ?_⟩
      have := rp.length
      simp at this
      have := List.getElem?_eq_none_iff.mp hn
      omega)
/-- the ints of a range -/
def rangeL (lo hi : Int) : List Int := (List.range (hi - lo).toNat).map fun i => lo + (i : Nat)
def rgOk (lo hi : Int) : Bool := decide (-(2 ^ 62) ≤ lo ∧ lo < 2 ^ 62 ∧ -(2 ^ 62) ≤ hi ∧ hi < 2 ^ 62)
theorem yields_range {C : Ck} {lo : Int} {hi : Int} : Yields C (it eI) (Itr lo (hi - lo).toNat) (rangeL lo hi) [] [] := ⟨rfl, fun i F H σ2 σb e2 eb hl2 h2 => by
  refine ⟨fun y hy => ?_, fun hn => ?_⟩
  · unfold rangeL at hy
    rw [List.getElem?_map] at hy
    by_cases hi : i < (hi - lo).toNat
    · rw [List.getElem?_range hi] at hy
      simp at hy; subst hy
      refine ⟨hi, fun v H' hy' => ⟨F, ?_⟩⟩
      obtain ⟨e1, e2⟩ := hy'
      rw [e1, e2]
      exact h2.pushSh (.int _)
    · rw [List.getElem?_eq_none (by simpa using hi)] at hy; cases hy
  · unfold rangeL at hn
    rw [List.getElem?_eq_none_iff] at hn
    simp at hn
    show (hi - lo).toNat ≤ i
    omega⟩
theorem li_range2 {f1 : (Int → P1 → Option Ω) → Option Ω} {f2 : P1 → (Int → P2 → Option Ω) → Option Ω} {p : Pos} (hg : Gl X "range") (hm : X.mg "range" = none) (h1 : LX X env a (it eI) e1 f1) (h2 : ∀ p1, LX X (e1 p1) b (it eI) (e2 p1) (f2 p1))
    (hs : starEach [a, b] X.env = [(false, eval a X.env), (false, eval b X.env)] := by rfl) (hs2 : starEach [b] X.env = [(false, eval b X.env)] := by rfl) (hs3 : starEach [a, b] X.env = (false, eval a X.env) :: starEach [b] X.env := by rfl) (hs4 : starEach [b] X.env = (false, eval b X.env) :: starEach [] X.env := by rfl) :
    LI X env tg (.Call (.Name "range" p) [a, b] [] pos) (it eI) (fun q : P1 × P2 => e2 q.1 q.2) (fun k => f1 fun x p1 => f2 p1 fun y p2 => ck (rgOk x y) (k (rangeL x y) (p1, p2))) :=
  fun C F H σs es σ k ω R hK hl hr hk q => tI.of X (pi_range2 hg hm (pa_cons (peC X) (pa_cons (peC X) pa_nil hs4) hs3) hs hs2) (op2_run (lo_of h1) (fun p1 => lo_of (h2 p1)) (fun _ _ => trivial) (fun _ _ => trivial) hK hl hr hk
    fun x p1 y p2 v u F' H' fp fq hk' h' r1 r2 => by
      obtain ⟨hc, hk'⟩ := ck_some hk'
      obtain ⟨_, r1⟩ := r1
      obtain ⟨_, r2⟩ := r2
      cases r1; cases r2
      exact ⟨x, y, rfl, of_decide_eq_true (p := -(2 ^ 62) ≤ x ∧ x < 2 ^ 62 ∧ -(2 ^ 62) ≤ y ∧ y < 2 ^ 62) hc, q (rangeL x y) (p1, p2) _ F' H' [] [] hk' h' yields_range⟩)
theorem li_range1 {f1 : (Int → P1 → Option Ω) → Option Ω} {p : Pos} (hg : Gl X "range") (hm : X.mg "range" = none) (h1 : LX X env a (it eI) e1 f1)
    (hs : starEach [a] X.env = [(false, eval a X.env)] := by rfl) (hs4 : starEach [a] X.env = (false, eval a X.env) :: starEach [] X.env := by rfl) :
    LI X env tg (.Call (.Name "range" p) [a] [] pos) (it eI) e1 (fun k => f1 fun y p1 => ck (rgOk 0 y) (k (rangeL 0 y) p1)) :=
  fun C F H σs es σ k ω R hK hl hr hk q => tI.of X (pi_range1 hg hm (pa_cons (peC X) pa_nil hs4) hs) (lo_run (lo_of h1) (fun _ => trivial) hK hl hr hk
    fun y p1 v F' H' fp hk' h' r1 => by
      obtain ⟨hc, hk'⟩ := ck_some hk'
      obtain ⟨_, r1⟩ := r1
      cases r1
      have hc' := of_decide_eq_true (p := -(2 ^ 62) ≤ (0 : Int) ∧ (0 : Int) < 2 ^ 62 ∧ -(2 ^ 62) ≤ y ∧ y < 2 ^ 62) hc
      have e0 : (y - 0).toNat = y.toNat := by omega
      refine ⟨y, rfl, hc'.2.2.1, hc'.2.2.2, ?_⟩
      rw [← e0]
      exact q (rangeL 0 y) p1 _ F' H' [] [] hk' h' yields_range)
end

/-! ### statements -/
/-- a loop over items: go on, or out -/
def forO {α S Ω : Type} : List α → S → (α → S → (S → Option Ω) → Option Ω) → (S → Option Ω) → Option Ω
  | [], s, _, k => k s
  | x :: xs, s, b, k => b x s fun s' => forO xs s' b k
/-- a loop with fuel -/
def whileO {S Ω : Type} : Nat → S → (S → (S → Option Ω) → Option Ω) → Option Ω
  | 0, _, _ => none
  | n + 1, s, b => b s fun s' => whileO n s' b
section
variable {X : Cx} {R I Ω : Type} {SR : Stor R} {envR : I → Env} {kr : R → I → Option Ω} {bk ct : Lp Ω} {env : Env} {nm : Str} {pos : Pos} {c e tg iter : Expr} {sts sa sb rest : List Stmt} {P A : Type} {τ α : Type} {S : Stor τ} {Sa : Stor α} {e' : P → Env} {ix : List Nat} {J J1 : Type} {envJ : J → Env} {env1 : J1 → Env}
theorem lb_end (j : J) (hs : Sub env (envJ j)) : LB X SR envR kr bk ct env [] envJ (fun kn => kn j) :=
  fun C F H σs es σ kn ω D hK hl h hk qn qb qc qr => tSs.of X pss_nil (qn j F H σ hk (h.subF hs))
theorem lb_sub {env0 : Env} {f : (J → Option Ω) → Option Ω} (hs : Sub env env0) (h : LB X SR envR kr bk ct env0 sts envJ f) : LB X SR envR kr bk ct env sts envJ f :=
  fun C F H σs es σ kn ω D hK hl hr hk qn qb qc qr => h C F H σs es σ kn ω D hK hl (hr.subF hs) hk qn qb qc qr
/-- a slot is shared from here on -/
theorem lb_frz {E : Enc τ} {x : τ} {f : (J → Option Ω) → Option Ω} (i : Nat) (fz : Frz S E) (he : env[i]? = some (.st none τ S x)) (h : LB X SR envR kr bk ct (env.set i (.st none τ (it E) x)) sts envJ f) : LB X SR envR kr bk ct env sts envJ f :=
  fun C F H σs es σ kn ω D hK hl hr hk qn qb qc qr => by
    obtain ⟨F', sF, h'⟩ := hr.freeze (i := es.length + i) fz (by rw [at_app _ rfl]; exact he)
    rw [List.set_append_right _ _ (Nat.le_add_right _ _), Nat.add_sub_cancel_left] at h'
    exact h C F' H σs es σ kn ω D hK hl h' hk qn qb qc qr
theorem lb_asg {f : (τ → P → Option Ω) → Option Ω} {fr : τ → P → (J → Option Ω) → Option Ω} {envT : P → τ → Env} (he : LX X env e S e' f) (hg : ∀ p, LG X ix (e' p) tg S (envT p)) (hr : ∀ x p, LB X SR envR kr bk ct (envT p x) rest envJ (fr x p))
    (hs : swapsWithSole [tg] e pos.line X.env = pure false := by rfl) (hw : swappedStores [tg] e X.env = pure none := by rfl) (h1 : (assignEach [tg] X.env).map (·.2) = [assign tg X.env] := by rfl) :
    LB X SR envR kr bk ct env (.Assign [tg] e pos :: rest) envJ (fun kn => f fun x p => fr x p kn) :=
  fun C F H σs es σ kn ω D hK hl h hk qn qb qc qr => tSs.of X (pss_cons (ps_asg (peC X) (pgC X) hs hw h1) (pssC X)) (he C F H σs es σ _ ω _ hK hl h hk fun x p v F' H' hk' h' =>
    hg p C F' H' σs es σ v x _ hK hl h' fun σ' _ h2 => hr x p C F' H' σs es σ' kn ω D hK hl h2 hk' qn qb qc qr)
theorem lb_set {f : (τ → P → Option Ω) → Option Ω} {fr : τ → P → (J → Option Ω) → Option Ω} {pos' : Pos} (i : Nat) (hN : X.N.Nodup) (he : LX X env e S e' f) (hr : ∀ x p, LB X SR envR kr bk ct ((e' p).set i (.st none τ S x)) rest envJ (fr x p))
    (hi : X.N[i]? = some nm := by rfl) (hx : Loc X.env.scope nm := by first | exact Or.inl rfl | exact Or.inr rfl) (hlt : ∀ p, i < (e' p).length := by exact (fun _ => Nat.lt_of_sub_eq_succ rfl)) (hf : X.fn nm = true ∨ X.env.scope.names.lookup nm = some .local := by first | exact .inl rfl | exact .inr rfl) (hs : swapsWith e (some (.Name nm pos')) pos.line X.env = pure false := by rfl) :
    LB X SR envR kr bk ct env (.Assign [.Name nm pos'] e pos :: rest) envJ (fun kn => f fun x p => fr x p kn) :=
  fun C F H σs es σ kn ω D hK hl h hk qn qb qc qr => tSs.of X (pss_cons (ps_set hN hi hx (peC X) hs hf) (pssC X)) (he C F H σs es σ _ ω _ hK hl h hk fun x p v F' H' hk' h' =>
    hr x p C F' H' σs es (σ.set i (some v)) kn ω D hK hl (h'.asg hl (hlt p)) hk' qn qb qc qr)
theorem lb_if {f : (Bool → P → Option Ω) → Option Ω} {fa fb : P → (J1 → Option Ω) → Option Ω} {fr : J1 → (J → Option Ω) → Option Ω} (hc : LT X env c e' f) (ha : ∀ p, LB X SR envR kr bk ct (e' p) sa env1 (fa p)) (hb : ∀ p, LB X SR envR kr bk ct (e' p) sb env1 (fb p)) (hr : ∀ j, LB X SR envR kr bk ct (env1 j) rest envJ (fr j)) :
    LB X SR envR kr bk ct env (.If c sa sb pos :: rest) envJ (fun kn => f fun b p => if b = true then fa p fun j => fr j kn else fb p fun j => fr j kn) :=
  fun C F H σs es σ kn ω D hK hl h hk qn qb qc qr => tSs.of X (pss_cons (ps_if (ptC X) (pssC X) (pssC X)) (pssC X)) (hc C F H σs es σ _ ω _ hK hl h hk fun b p F' H' hk' h' => by
    cases b with
    | true =>
      rw [if_pos rfl] at hk'
      show if true = true then _ else _
      rw [if_pos rfl]
      exact ha p C F' H' σs es σ _ ω _ hK hl h' hk' (fun j F2 H2 σ2 hk2 h2 => hr j C F2 H2 σs es σ2 kn ω D hK hl h2 hk2 qn qb qc qr) qb qc qr
    | false =>
      rw [if_neg Bool.false_ne_true] at hk'
      show if false = true then _ else _
      rw [if_neg Bool.false_ne_true]
      exact hb p C F' H' σs es σ _ ω _ hK hl h' hk' (fun j F2 H2 σ2 hk2 h2 => hr j C F2 H2 σs es σ2 kn ω D hK hl h2 hk2 qn qb qc qr) qb qc qr)
/-- an if whose body never goes on -/
theorem lb_ifr {f : (Bool → P → Option Ω) → Option Ω} {fa : P → (Empty → Option Ω) → Option Ω} {fr : P → (J → Option Ω) → Option Ω} (hc : LT X env c e' f) (ha : ∀ p, LB X SR envR kr bk ct (e' p) sa (fun z : Empty => z.elim) (fa p)) (hr : ∀ p, LB X SR envR kr bk ct (e' p) rest envJ (fr p)) :
    LB X SR envR kr bk ct env (.If c sa [] pos :: rest) envJ (fun kn => f fun b p => if b = true then fa p (fun z => z.elim) else fr p kn) :=
  fun C F H σs es σ kn ω D hK hl h hk qn qb qc qr => tSs.of X (pss_cons (ps_if (ptC X) (pssC X) pss_nil) (pssC X)) (hc C F H σs es σ _ ω _ hK hl h hk fun b p F' H' hk' h' => by
    cases b with
    | true =>
      rw [if_pos rfl] at hk'
      show if true = true then _ else _
      rw [if_pos rfl]
      exact ha p C F' H' σs es σ _ ω _ hK hl h' hk' (fun z => z.elim) qb qc qr
    | false =>
      rw [if_neg Bool.false_ne_true] at hk'
      show if false = true then _ else _
      rw [if_neg Bool.false_ne_true]
      exact hr p C F' H' σs es σ kn ω D hK hl h' hk' qn qb qc qr)
theorem lb_ret {f : (R → P → Option Ω) → Option Ω} (he : LX X env e SR e' f) (g : P → I) (hs : ∀ p, Sub (e' p) (envR (g p))) : LB X SR envR kr bk ct env (.Return (some e) pos :: rest) envJ (fun _ => f fun x p => kr x (g p)) :=
  fun C F H σs es σ kn ω D hK hl h hk qn qb qc qr => tSs.of X (pss_cons (ps_ret (peC X)) (pssC X)) (he C F H σs es σ _ ω _ hK hl h hk fun x p v F' H' hk' h' =>
    qr x (g p) v F' H' σ hk' (ER.sub h' (.keep ((hs p).pre es))))
theorem lb_brk (j : bk.J) (hs : Sub env (bk.env j)) : LB X SR envR kr bk ct env (.Break pos :: rest) envJ (fun _ => bk.k j) :=
  fun C F H σs es σ kn ω D hK hl h hk qn qb qc qr => tSs.of X (pss_cons ps_break (pssC X)) (qb j F H σ hk (h.subF hs))
theorem lb_cont (j : ct.J) (hs : Sub env (ct.env j)) : LB X SR envR kr bk ct env (.Continue pos :: rest) envJ (fun _ => ct.k j) :=
  fun C F H σs es σ kn ω D hK hl h hk qn qb qc qr => tSs.of X (pss_cons ps_continue (pssC X)) (qc j F H σ hk (h.subF hs))
theorem lb_pass {f : (J → Option Ω) → Option Ω} (hr : LB X SR envR kr bk ct env rest envJ f) : LB X SR envR kr bk ct env (.Pass pos :: rest) envJ f :=
  fun C F H σs es σ kn ω D hK hl h hk qn qb qc qr => tSs.of X (pss_cons ps_pass (pssC X)) (hr C F H σs es σ kn ω D hK hl h hk qn qb qc qr)
/-- an expression for what it does -/
theorem lb_expr {f : (τ → P → Option Ω) → Option Ω} {fr : P → (J → Option Ω) → Option Ω} (he : LX X env e S e' f) (hr : ∀ p, LB X SR envR kr bk ct (e' p) rest envJ (fr p)) (hs : swapsWith e none pos.line X.env = pure false := by rfl) :
    LB X SR envR kr bk ct env (.Expr e pos :: rest) envJ (fun kn => f fun _ p => fr p kn) :=
  fun C F H σs es σ kn ω D hK hl h hk qn qb qc qr => tSs.of X (pss_cons (ps_expr (peC X) hs) (pssC X)) (he C F H σs es σ _ ω _ hK hl h hk fun x p v F' H' hk' h' =>
    hr p C F' H' σs es σ kn ω D hK hl h'.pop hk' qn qb qc qr)
/-- a for; T: what it carries -/
theorem lb_for {T : Type} {envT : T → Env} {envX : T → α → Env} {f : (List α → P → Option Ω) → Option Ω} {fb : α → T → (T → Option Ω) → (T → Option Ω) → (T → Option Ω) → Option Ω} {fr : T → (J → Option Ω) → Option Ω}
    (hp : PassesOwn (model X.prog X.w) X.A X.env X.xe) (hc : X.calm = true) (hi : LI X env tg iter Sa e' f) (t0 : P → T) (h0 : ∀ p, Sub (e' p) (envT (t0 p))) (hg : ∀ t, LG X ix (envT t) tg Sa (envX t))
    (hb : ∀ x t kc kb, LB X SR envR kr ⟨T, envT, kb⟩ ⟨T, envT, kc⟩ (envX t x) sts envT (fun kn => fb x t kn kc kb)) (hr : ∀ t, LB X SR envR kr bk ct (envT t) rest envJ (fr t)) (hs : ∀ x, foldedSetIterable iter X.env x = pure x := by intro _; rfl) :
    LB X SR envR kr bk ct env (.For tg iter sts [] pos :: rest) envJ (fun kn => f fun xs p => forO xs (t0 p) (fun x t kc => fb x t kc kc fun t' => fr t' kn) fun t' => fr t' kn) :=
  fun C F H σs es σ kn ω D hK hl h hk qn qb qc qr => tSs.of X (pss_cons (ps_for hp hc (piC X) (pgC X) (pssC X) hs) (pssC X)) (hi C F H σs es σ _ ω _ hK hl h hk fun xs p Jt F' H' σx ex hk' h' hy => by
    have out : ∀ t F2 H2 σ2, fr t kn = some ω → ER C F2 H2 (σx ++ (σs ++ σ2)) (ex ++ (es ++ envT t)) → tSs X rest D σ2 H2 := fun t F2 H2 σ2 hk2 h2 =>
      hr t C F2 H2 σs es σ2 kn ω D hK hl (h2.popN hy.len) hk2 qn qb qc qr
    refine ⟨fun i m σ2 H2 => m = xs.length - i ∧ i ≤ xs.length ∧ ∃ t F2, ER C F2 H2 (σx ++ (σs ++ σ2)) (ex ++ (es ++ envT t)) ∧ forO (xs.drop i) t (fun x t kc => fb x t kc kc fun t' => fr t' kn) (fun t' => fr t' kn) = some ω,
      ⟨xs.length, by simp, Nat.zero_le _, t0 p, F', h'.sub (((h0 p).pre es).pre ex), by simpa using hk'⟩, ?_⟩
    rintro i m σ2 H2 ⟨rfl, hi, t, F2, h2, hk2⟩
    obtain ⟨y1, y2⟩ := hy.go i F2 H2 [] (σs ++ σ2) [] (es ++ envT t) rfl h2
    by_cases hlt : i < xs.length
    · have ex1 : xs[i]? = some xs[i] := List.getElem?_eq_getElem hlt
      obtain ⟨g1, g2⟩ := y1 _ ex1
      have ed : xs.drop i = xs[i] :: xs.drop (i + 1) := List.drop_eq_getElem_cons hlt
      rw [ed] at hk2
      refine .inr ⟨g1, fun σ3 H3 => ∃ t F3, ER C F3 H3 (σx ++ (σs ++ σ3)) (ex ++ (es ++ envT t)) ∧ forO (xs.drop (i + 1)) t (fun x t kc => fb x t kc kc fun t' => fr t' kn) (fun t' => fr t' kn) = some ω,
        fun σ3 H3 ⟨t3, F3, h3, hk3⟩ => ⟨xs.length - (i + 1), by omega, rfl, hlt, t3, F3, h3, hk3⟩, fun v H3 hv => ?_⟩
      obtain ⟨F3, h3⟩ := g2 v H3 hv
      refine hg t C F3 H3 (σx ++ σs) (ex ++ es) σ2 v xs[i] _ hK (by simp [hl, hy.len]) (by simpa [List.append_assoc] using h3) fun σ4 _ h4 => ?_
      refine hb xs[i] t (fun s' => forO (xs.drop (i + 1)) s' (fun x t kc => fb x t kc kc fun t' => fr t' kn) fun t' => fr t' kn) (fun t' => fr t' kn) C F3 H3 (σx ++ σs) (ex ++ es) σ4 _ ω _ hK (by simp [hl, hy.len]) h4 hk2 ?_ ?_ ?_ ?_
      · intro t5 F5 H5 σ5 hk5 h5; exact ⟨t5, F5, by simpa [List.append_assoc] using h5, hk5⟩
      · intro t5 F5 H5 σ5 hk5 h5; exact out t5 F5 H5 σ5 hk5 (by simpa [List.append_assoc] using h5)
      · intro t5 F5 H5 σ5 hk5 h5; exact ⟨t5, F5, by simpa [List.append_assoc] using h5, hk5⟩
      · intro a5 i5 v5 F5 H5 σ5 hk5 h5
        refine qr a5 i5 v5 F5 H5 σ5 hk5 ?_
        have h6 : ER C F5 H5 (σx ++ (some v5 :: (σs ++ σ5))) (ex ++ (.st none R SR a5 :: (es ++ envR i5))) := by
          have z : ER C F5 H5 ([some v5] ++ (σx ++ (σs ++ σ5))) ([.st none R SR a5] ++ (ex ++ (es ++ envR i5))) := by simpa [List.append_assoc] using h5
          exact ER.unrot z hy.len
        exact h6.popN hy.len
    · have e : i = xs.length := by omega
      subst e
      refine .inl ⟨y2 (by simp), out t F2 H2 σ2 ?_ h2⟩
      simpa [forO] using hk2)
end
end Z

set_option Elab.async false
set_option linter.all false
set_option maxRecDepth 100000
namespace Z
open PySem PySem.Spec PyProof.Rows L2

/-! ### and, or, if-else -/
section
variable (X : Cx) {Ω : Type}
def tW (e : Expr) : TT := fun σ H Q => ∀ whole pins s, Inv X pins σ H s → wpAny (model X.prog X.w) X.A (isTrue e X.env whole) (TP X pins σ Q) X.xe s
theorem pwC {e : Expr} : PW X e (tW X e) := ⟨fun whole pins s σ H Q I h => h whole pins s I⟩
theorem tW.of {e : Expr} {t : TT} {σ : L2.St} {H : Hp} {Q : Bool → Hp → Prop} (h : PW X e t) (q : t σ H Q) : tW X e σ H Q := fun whole pins s I => h.run whole pins s σ H Q I q
def LW (env : Env) (e : Expr) {P : Type} (env' : P → Env) (f : (Bool → P → Option Ω) → Option Ω) : Prop :=
  ∀ (C : Ck) (F H : Hp) (σs : List (Option V)) (es : Env) (σ : List (Option V)) (k : Bool → P → Option Ω) (ω : Ω) (Q : Bool → Hp → Prop), C.K = X.K → σs.length = es.length → ER C F H (σs ++ σ) (es ++ env) → f k = some ω →
    (∀ a p F' H', k a p = some ω → ER C F' H' (σs ++ σ) (es ++ env' p) → Q a H') → tW X e σ H Q
end
section
variable {X : Cx} {Ω : Type} {env : Env} {nm : Str} {pos : Pos} {a b c e : Expr} {xs rest : List Expr} {P P1 P2 P3 A : Type} {τ τ1 τ2 α β : Type} {S : Stor τ} {S1 : Stor τ1} {S2 : Stor τ2} {E : Enc τ} {E1 : Enc τ1} {E2 : Enc τ2}
  {G : Env → Prop} {e' : P → Env} {e1 : P1 → Env} {e2 : P1 → P2 → Env} {e3 : P1 → P3 → Env}
theorem lt_w {f : (Bool → P → Option Ω) → Option Ω} (h : LW X env e e' f) : LT X env e e' f :=
  fun C F H σs es σ k ω Q hK hl hr hk q => tT.of X (pwC X).pt (h C F H σs es σ k ω Q hK hl hr hk q)
theorem lw_and1 {f : (Bool → P → Option Ω) → Option Ω} (h : LT X env a e' f) : LW X env (.BoolOp .And [a] pos) e' f :=
  fun C F H σs es σ k ω Q hK hl hr hk q => tW.of X (pw_and1 (ptC X)) (h C F H σs es σ k ω Q hK hl hr hk q)
theorem lw_or1 {f : (Bool → P → Option Ω) → Option Ω} (h : LT X env a e' f) : LW X env (.BoolOp .Or [a] pos) e' f :=
  fun C F H σs es σ k ω Q hK hl hr hk q => tW.of X (pw_or1 (ptC X)) (h C F H σs es σ k ω Q hK hl hr hk q)
theorem lw_and {fa : (Bool → P1 → Option Ω) → Option Ω} {fb : P1 → (Bool → P2 → Option Ω) → Option Ω} (ha : LT X env a e1 fa) (hb : ∀ p1, LW X (e1 p1) (.BoolOp .And (b :: rest) pos) (e2 p1) (fb p1)) (hs : ∀ p1 p2, Sub (e2 p1 p2) (e1 p1)) :
    LW X env (.BoolOp .And (a :: b :: rest) pos) e1 (fun k => fa fun x p1 => if x = true then fb p1 fun y _ => k y p1 else k false p1) :=
  fun C F H σs es σ k ω Q hK hl hr hk q => tW.of X (pw_and (ptC X) (pwC X)) (ha C F H σs es σ _ ω _ hK hl hr hk fun x p1 F' H' hk' h' => by
    cases x with
    | true => rw [if_pos rfl] at hk' ⊢; exact hb p1 C F' H' σs es σ _ ω Q hK hl h' hk' fun y p2 F2 H2 hk2 h2 => q y p1 F2 H2 hk2 (h2.subF (hs p1 p2))
    | false => rw [if_neg Bool.false_ne_true] at hk' ⊢; exact q false p1 F' H' hk' h')
theorem lw_or {fa : (Bool → P1 → Option Ω) → Option Ω} {fb : P1 → (Bool → P2 → Option Ω) → Option Ω} (ha : LT X env a e1 fa) (hb : ∀ p1, LW X (e1 p1) (.BoolOp .Or (b :: rest) pos) (e2 p1) (fb p1)) (hs : ∀ p1 p2, Sub (e2 p1 p2) (e1 p1)) :
    LW X env (.BoolOp .Or (a :: b :: rest) pos) e1 (fun k => fa fun x p1 => if x = true then k true p1 else fb p1 fun y _ => k y p1) :=
  fun C F H σs es σ k ω Q hK hl hr hk q => tW.of X (pw_or (ptC X) (pwC X)) (ha C F H σs es σ _ ω _ hK hl hr hk fun x p1 F' H' hk' h' => by
    cases x with
    | true => rw [if_pos rfl] at hk' ⊢; exact q true p1 F' H' hk' h'
    | false => rw [if_neg Bool.false_ne_true] at hk' ⊢; exact hb p1 C F' H' σs es σ _ ω Q hK hl h' hk' fun y p2 F2 H2 hk2 h2 => q y p1 F2 H2 hk2 (h2.subF (hs p1 p2)))
/-- as values -/
theorem lx_one {op : BoolOp} {f : (Bool → P → Option Ω) → Option Ω} (h : LX X env a (it eB) e' f) : LX X env (.BoolOp op [a] pos) (it eB) e' f :=
  fun C F H σs es σ k ω Q hK hl hr hk q => tE.of X (pe_one (peC X)) (h C F H σs es σ k ω Q hK hl hr hk q)
theorem ER.topB {C : Ck} {F H : Hp} {v : V} {x : Bool} {σ : List (Option V)} {env : Env} (h : ER C F H (some v :: σ) (.st none Bool (it eB) x :: env)) : v = .bl x := by
  obtain ⟨v', fp, e1, r⟩ := h.look (i := 0) rfl
  simp at e1; subst e1
  obtain ⟨_, r⟩ := r
  cases r; rfl
theorem lx_and {fa : (Bool → P1 → Option Ω) → Option Ω} {fb : P1 → (Bool → P2 → Option Ω) → Option Ω} (ha : LX X env a (it eB) e1 fa) (hb : ∀ p1, LX X (e1 p1) (.BoolOp .And (b :: rest) pos) (it eB) (e2 p1) (fb p1)) (hs : ∀ p1 p2, Sub (e2 p1 p2) (e1 p1)) :
    LX X env (.BoolOp .And (a :: b :: rest) pos) (it eB) e1 (fun k => fa fun x p1 => if x = true then fb p1 fun y _ => k y p1 else k false p1) :=
  fun C F H σs es σ k ω Q hK hl hr hk q => tE.of X (pe_and (peC X) (peC X)) (ha C F H σs es σ _ ω _ hK hl hr hk fun x p1 v F' H' hk' h' => by
    refine ⟨x, h'.topB, ?_⟩
    cases x with
    | true => rw [if_pos rfl] at hk' ⊢; exact hb p1 C F' H' σs es σ _ ω Q hK hl h'.pop hk' fun y p2 u F2 H2 hk2 h2 => q y p1 u F2 H2 hk2 (ER.sub h2 (.keep ((hs p1 p2).pre es)))
    | false => rw [if_neg Bool.false_ne_true] at hk' ⊢; exact q false p1 _ F' H' hk' (h'.pop.pushSh (.bl _)))
theorem lx_or {fa : (Bool → P1 → Option Ω) → Option Ω} {fb : P1 → (Bool → P2 → Option Ω) → Option Ω} (ha : LX X env a (it eB) e1 fa) (hb : ∀ p1, LX X (e1 p1) (.BoolOp .Or (b :: rest) pos) (it eB) (e2 p1) (fb p1)) (hs : ∀ p1 p2, Sub (e2 p1 p2) (e1 p1)) :
    LX X env (.BoolOp .Or (a :: b :: rest) pos) (it eB) e1 (fun k => fa fun x p1 => if x = true then k true p1 else fb p1 fun y _ => k y p1) :=
  fun C F H σs es σ k ω Q hK hl hr hk q => tE.of X (pe_or (peC X) (peC X)) (ha C F H σs es σ _ ω _ hK hl hr hk fun x p1 v F' H' hk' h' => by
    refine ⟨x, h'.topB, ?_⟩
    cases x with
    | true => rw [if_pos rfl] at hk' ⊢; exact q true p1 _ F' H' hk' (h'.pop.pushSh (.bl _))
    | false => rw [if_neg Bool.false_ne_true] at hk' ⊢; exact hb p1 C F' H' σs es σ _ ω Q hK hl h'.pop hk' fun y p2 u F2 H2 hk2 h2 => q y p1 u F2 H2 hk2 (ER.sub h2 (.keep ((hs p1 p2).pre es))))
theorem lx_not {f : (Bool → P → Option Ω) → Option Ω} (h : LX X env a (it eB) e' f) : LX X env (.UnaryOp .Not a pos) (it eB) e' (fun k => f fun x p => k (!x) p) :=
  fun C F H σs es σ k ω Q hK hl hr hk q => tE.of X (pe_not (peC X)) (h C F H σs es σ _ ω _ hK hl hr hk fun x p v F' H' hk' h' => ⟨x, h'.topB, q _ p _ F' H' hk' (h'.pop.pushSh (.bl _))⟩)
theorem lx_if {fc : (Bool → P1 → Option Ω) → Option Ω} {fa : P1 → (τ → P2 → Option Ω) → Option Ω} {fb : P1 → (τ → P3 → Option Ω) → Option Ω} (hc : LT X env c e1 fc) (ha : ∀ p1, LX X (e1 p1) a S (e2 p1) (fa p1)) (hb : ∀ p1, LX X (e1 p1) b S (e3 p1) (fb p1))
    (hs : ∀ p1 p2, Sub (e2 p1 p2) (e1 p1)) (hs3 : ∀ p1 p3, Sub (e3 p1 p3) (e1 p1)) :
    LX X env (.IfExp c a b pos) S e1 (fun k => fc fun x p1 => if x = true then fa p1 fun y _ => k y p1 else fb p1 fun y _ => k y p1) :=
  fun C F H σs es σ k ω Q hK hl hr hk q => tE.of X (pe_ifExp (ptC X) (peC X) (peC X)) (hc C F H σs es σ _ ω _ hK hl hr hk fun x p1 F' H' hk' h' => by
    cases x with
    | true => rw [if_pos rfl] at hk' ⊢; exact ha p1 C F' H' σs es σ _ ω Q hK hl h' hk' fun y p2 u F2 H2 hk2 h2 => q y p1 u F2 H2 hk2 (ER.sub h2 (.keep ((hs p1 p2).pre es)))
    | false => rw [if_neg Bool.false_ne_true] at hk' ⊢; exact hb p1 C F' H' σs es σ _ ω Q hK hl h' hk' fun y p2 u F2 H2 hk2 h2 => q y p1 u F2 H2 hk2 (ER.sub h2 (.keep ((hs3 p1 p2).pre es))))
end

/-! ### while; stores into own lists -/
section
variable {C : Ck} {F F' H H' : Hp} {σ : List (Option V)} {env : Env} {o : Option V} {τ τ0 : Type} {S : Stor τ} {S0 : Stor τ0} {x : τ} {y : τ0} {v : V} {w : Option V} {i : Nat}
/-- the stack's top goes into the objects of slot i -/
theorem ER.absorb (h : ER C F H (o :: σ) (.st none τ0 S0 y :: env)) (e : env[i]? = some (.st w τ S x)) : ∃ v fp v0 fq, σ[i]? = some (some v) ∧ o = some v0 ∧ S.rel C.K F H fp v x ∧ S0.rel C.K F H fq v0 y ∧ (fp ++ fq).Nodup ∧ (∀ a ∈ fp ++ fq, C.B a = none ∧ F a = none ∧ H a ≠ none) ∧
    ∀ (τ' : Type) (S' : Stor τ') (x' : τ') (H' : Hp) (fp' : List Addr), (∀ a, a ∉ fp ++ fq → H a ≠ none → H' a = H a) → (∀ a, H a ≠ none → H' a ≠ none) → S'.rel C.K F H' fp' v x' → fp'.Nodup → (∀ a ∈ fp', H' a ≠ none ∧ (a ∈ fp ++ fq ∨ H a = none)) → ER C F H' σ (env.set i (.st w τ' S' x')) := by
  obtain ⟨fp, q⟩ := h.sl
  obtain ⟨hi, _⟩ := List.getElem?_eq_some_iff.mp e
  obtain ⟨v, e1, r, k⟩ := q.ok (i + 1) _ (by simpa using e)
  obtain ⟨v0, e0, r0, k0⟩ := q.ok 0 _ rfl
  have e1' : σ[i]? = some (some v) := by
    simp at e1
    cases z : σ[i]? with
    | none => rw [z] at e1; cases e1
    | some o => rw [z] at e1; exact congrArg some e1
  have e0' : o = some v0 := by simpa using e0
  have hi1 : i + 1 < (Slot.st none τ0 S0 y :: env).length := by simpa using hi
  have h00 : 0 < (Slot.st none τ0 S0 y :: env).length := by simp
  have ownu : ∀ a ∈ fp (i + 1) ++ fp 0, C.B a = none ∧ F a = none ∧ H a ≠ none := fun a m => by
    rcases List.mem_append.mp m with m | m
    · exact q.own (i + 1) hi1 a m
    · exact q.own 0 h00 a m
  have ndu : (fp (i + 1) ++ fp 0).Nodup := by
    rw [List.nodup_append]
    refine ⟨q.nd (i + 1) hi1, q.nd 0 h00, fun a ha b hb z => ?_⟩
    subst z
    have := q.sep (i + 1) 0 hi1 h00 a ha hb
    omega
  refine ⟨v, fp (i + 1), v0, fp 0, e1', e0', r, r0, ndu, ownu, fun τ' S' x' H' fp' hk hs r' nd' sub => ?_⟩
  have hp := h.pop
  have bne : ∀ a, C.B a ≠ none → a ∉ fp (i + 1) ++ fp 0 := fun a m z => m (ownu a z).1
  have notu : ∀ j, j < env.length → j ≠ i → ∀ a ∈ fp (j + 1), a ∉ fp (i + 1) ++ fp 0 := fun j hj ne a ha z => by
    have hj1 : j + 1 < (Slot.st none τ0 S0 y :: env).length := by simpa using hj
    rcases List.mem_append.mp z with z | z
    · have := q.sep (j + 1) (i + 1) hj1 hi1 a ha z; omega
    · have := q.sep (j + 1) 0 hj1 h00 a ha z; omega
  refine ⟨fun a o m => ?_, fun a o m => ?_, h.gr, fun a m => hs a (h.up a m), by simp [hp.len], fun j => if j = i then fp' else fp (j + 1), fun j s' ej => ?_, fun j hj a ha => ?_, fun j l hj hl a ha hb => ?_, fun j hj => ?_⟩
  · have m' : C.B a ≠ none := by rw [m]; exact fun z => by cases z
    rw [hk a (bne a m') (same_some h.sB m')]; exact h.sB a o m
  · have m' : F a ≠ none := by rw [m]; exact fun z => by cases z
    rw [hk a (fun z => m' (ownu a z).2.1) (same_some h.sF m')]; exact h.sF a o m
  · by_cases z : j = i
    · subst z
      rw [List.getElem?_set_self hi] at ej
      cases ej
      refine ⟨v, by rw [e1']; rfl, ?_, ?_⟩
      · simpa using r'
      · simp only [if_pos]
        cases w with
        | none =>
          intro a ha
          rcases (sub a ha).2 with m | m
          · rcases List.mem_append.mp m with m | m
            · exact k a m
            · exact k0 a m
          · exact h.hnone m
        | some w0 =>
          refine ⟨k.1, fun a ha => ?_⟩
          rcases (sub a ha).2 with m | m
          · rcases List.mem_append.mp m with m | m
            · exact k.2 a m
            · exact .inl (k0 a m)
          · exact .inl (h.hnone m)
    · rw [List.getElem?_set_ne (fun y => z y.symm)] at ej
      have hj : j < env.length := (List.getElem?_eq_some_iff.mp ej).1
      simp only [if_neg z]
      have := q.ok (j + 1) s' (by simpa using ej)
      simp only [List.getElem?_cons_succ] at this
      refine this.go (fun _ _ y => y) (fun a m => hk a (bne a m) (same_some h.sB m)) fun a ha => ?_
      exact hk a (notu j hj z a ha) (q.own (j + 1) (by simpa using hj) a ha).2.2
  · have hj' : j < env.length := by simpa using hj
    by_cases z : j = i
    · subst z
      simp only [if_pos] at ha
      obtain ⟨m1, m⟩ := sub a ha
      rcases m with m | m
      · exact ⟨(ownu a m).1, (ownu a m).2.1, m1⟩
      · exact ⟨h.bnone m, h.fnone m, m1⟩
    · simp only [if_neg z] at ha
      obtain ⟨b, f, c⟩ := q.own (j + 1) (by simpa using hj') a ha
      exact ⟨b, f, hs a c⟩
  · have hj' : j < env.length := by simpa using hj
    have hl' : l < env.length := by simpa using hl
    by_cases zj : j = i
    · by_cases zl : l = i
      · rw [zj, zl]
      · simp only [if_pos zj] at ha
        simp only [if_neg zl] at hb
        rcases (sub a ha).2 with m | m
        · exact absurd m (notu l hl' zl a hb)
        · exact absurd m (q.own (l + 1) (by simpa using hl') a hb).2.2
    · simp only [if_neg zj] at ha
      by_cases zl : l = i
      · simp only [if_pos zl] at hb
        rcases (sub a hb).2 with m | m
        · exact absurd m (notu j hj' zj a ha)
        · exact absurd m (q.own (j + 1) (by simpa using hj') a ha).2.2
      · simp only [if_neg zl] at hb
        have := q.sep (j + 1) (l + 1) (by simpa using hj') (by simpa using hl') a ha hb
        omega
  · have hj' : j < env.length := by simpa using hj
    by_cases z : j = i
    · simp only [if_pos z]; exact nd'
    · simp only [if_neg z]; exact q.nd (j + 1) (by simpa using hj')
theorem RelAll.app {α : Type} {R : List Addr → V → α → Prop} : ∀ {fp : List Addr} {vs : List V} {xs : List α} {fq : List Addr} {v : V} {x : α}, RelAll R fp vs xs → R fq v x → RelAll R (fp ++ fq) (vs ++ [v]) (xs ++ [x])
  | _, _, _, fq, v, x, .nil, h => by simpa using RelAll.cons h .nil
  | _, _, _, fq, v, x, .cons h r, q => by
    rw [List.append_assoc]
    exact .cons h (r.app q)
theorem RelAll.length {α : Type} {R : List Addr → V → α → Prop} : ∀ {fp : List Addr} {vs : List V} {xs : List α}, RelAll R fp vs xs → vs.length = xs.length
  | _, _, _, .nil => rfl
  | _, _, _, .cons _ r => congrArg (· + 1) r.length
end
def SZ : Nat := 16777216
theorem SZ_eq : sizeLine = SZ := sizeLine_eq
section
variable {X : Cx} {R I Ω : Type} {SR : Stor R} {envR : I → Env} {kr : R → I → Option Ω} {bk ct : Lp Ω} {env : Env} {nm : Str} {pos : Pos} {c e tg iter : Expr} {sts sa sb rest : List Stmt} {P P1 P2 A : Type} {τ α : Type} {S : Stor τ} {Sa : Stor α} {e' : P → Env} {ix : List Nat} {J J1 : Type} {envJ : J → Env} {env1 : J1 → Env}
/-- a while, with fuel n -/
theorem lb_while {T Pt : Type} {envT : T → Env} {eT : T → Pt → Env} {fc : T → (Bool → Pt → Option Ω) → Option Ω} {fb : T → Pt → (T → Option Ω) → (T → Option Ω) → (T → Option Ω) → Option Ω} {fr : T → (J → Option Ω) → Option Ω} (n : Nat)
    (hp : PassesOwn (model X.prog X.w) X.A X.env X.xe) (t0 : T) (h0 : Sub env (envT t0)) (hc : ∀ t, LT X (envT t) c (eT t) (fc t)) (hx : ∀ t p, Sub (eT t p) (envT t))
    (hb : ∀ t p kc kb, LB X SR envR kr ⟨T, envT, kb⟩ ⟨T, envT, kc⟩ (eT t p) sts envT (fun kn => fb t p kn kc kb)) (hr : ∀ t, LB X SR envR kr bk ct (envT t) rest envJ (fr t)) :
    LB X SR envR kr bk ct env (.While c sts [] pos :: rest) envJ (fun kn => whileO n t0 fun t kc => fc t fun b p => if b = true then fb t p kc kc fun t' => fr t' kn else fr t kn) :=
  fun C F H σs es σ kn ω D hK hl h hk qn qb qc qr => tSs.of X (pss_cons (ps_while hp (ptC X) (pssC X)) (pssC X)) (by
    have out : ∀ t F2 H2 σ2, fr t kn = some ω → ER C F2 H2 (σs ++ σ2) (es ++ envT t) → tSs X rest D σ2 H2 := fun t F2 H2 σ2 hk2 h2 =>
      hr t C F2 H2 σs es σ2 kn ω D hK hl h2 hk2 qn qb qc qr
    refine ⟨fun m σ2 H2 => ∃ t F2, ER C F2 H2 (σs ++ σ2) (es ++ envT t) ∧ whileO m t (fun t kc => fc t fun b p => if b = true then fb t p kc kc fun t' => fr t' kn else fr t kn) = some ω, ⟨n, t0, F, h.subF h0, hk⟩, ?_⟩
    rintro m σ2 H2 ⟨t, F2, h2, hk2⟩
    cases m with
    | zero => cases hk2
    | succ m =>
      refine hc t C F2 H2 σs es σ2 _ ω _ hK hl h2 hk2 fun b p F3 H3 hk3 h3 => ?_
      cases b with
      | true =>
        rw [if_pos rfl] at hk3 ⊢
        refine ⟨fun σ4 H4 => ∃ t F4, ER C F4 H4 (σs ++ σ4) (es ++ envT t) ∧ whileO m t (fun t kc => fc t fun b p => if b = true then fb t p kc kc fun t' => fr t' kn else fr t kn) = some ω, fun σ4 H4 ⟨t4, F4, h4, hk4⟩ => ⟨m, Nat.lt_succ_self m, t4, F4, h4, hk4⟩, ?_⟩
        refine hb t p (fun s' => whileO m s' fun t kc => fc t fun b p => if b = true then fb t p kc kc fun t' => fr t' kn else fr t kn) (fun t' => fr t' kn) C F3 H3 σs es σ2 _ ω _ hK hl h3 hk3 ?_ ?_ ?_ ?_
        · intro t5 F5 H5 σ5 hk5 h5; exact ⟨t5, F5, h5, hk5⟩
        · intro t5 F5 H5 σ5 hk5 h5; exact out t5 F5 H5 σ5 hk5 h5
        · intro t5 F5 H5 σ5 hk5 h5; exact ⟨t5, F5, h5, hk5⟩
        · intro a5 i5 v5 F5 H5 σ5 hk5 h5; exact qr a5 i5 v5 F5 H5 σ5 hk5 h5
      | false =>
        rw [if_neg Bool.false_ne_true] at hk3 ⊢
        exact out t F3 H3 σ2 hk3 (h3.subF (hx t p)))
/-- x.append(e), x a list of one's own -/
theorem lb_app {f : (α → P → Option Ω) → Option Ω} {fr : α → P → (J → Option Ω) → Option Ω} {w : Option V} {x0 : List α} {xs : P → List α} {ap cp np : Pos} (i : Nat) (h0 : env[i]? = some (.st w (List α) (ls Sa) x0))
    (he : LX X env e Sa e' f) (h1 : ∀ p, (e' p)[i]? = some (.st w (List α) (ls Sa) (xs p))) (hr : ∀ y p, LB X SR envR kr bk ct ((e' p).set i (.st w (List α) (ls Sa) (xs p ++ [y]))) rest envJ (fr y p))
    (hN : X.N[i]? = some nm := by rfl) (hv : Vis X.env.scope nm := by first | exact Or.inl rfl | exact Or.inr (Or.inl rfl) | exact Or.inr (Or.inr rfl))
    (hd : (nm == ("__debug__" : Str)) = false := by decide) (hcd : (nm == ("__classdict__" : Str)) = false := by decide)
    (hbase : attributeBase (.Name nm np) "append" X.env (eval (.Name nm np) X.env) = eval (.Name nm np) X.env := by rfl)
    (hfew : ((backTo cp (starEach [e] X.env)).all (fun x => !x.1) && (backToKw cp (keywordEach [] X.env)).all (fun x => x.1.isSome) && decide ([e].length + ([] : List Keyword).length + (if ([] : List Keyword).isEmpty then 0 else 1) < 30)) = true := by rfl)
    (hline : (ap.endLine == cp.line) = true := by rfl) (hse : starEach [e] X.env = (false, eval e X.env) :: starEach [] X.env := by rfl) (hplain : (backTo cp (starEach [] X.env)).any (·.1) = false := by rfl)
    (hsw : swapsWith (.Call (.Attribute (.Name nm np) "append" ap) [e] [] cp) none pos.line X.env = pure false := by rfl) :
    LB X SR envR kr bk ct env (.Expr (.Call (.Attribute (.Name nm np) "append" ap) [e] [] cp) pos :: rest) envJ (fun kn => f fun y p => ck (decide ((xs p).length < SZ)) (fr y p kn)) :=
  fun C F H σs es σ kn ω D hK hl h hk qn qb qc qr => tSs.of X (pss_cons (ps_expr (pe_bm PySem.F.plainAttrs_list PySem.F.slot_list_append PySem.F.type_list_append mt_append (pe_var hN hv hd hcd) (pa_cons (peC X) pa_nil hse) hbase hfew hline hse hplain) hsw) (pssC X)) (by
    obtain ⟨l, fp, e1, r⟩ := h.lookF hl h0
    obtain ⟨q0, vs0, fps0, rfl, hq0, _, _⟩ := r
    refine ⟨_, e1, .inl ⟨rfl, vs0, SqL.of hq0⟩, he C F H σs es σ _ ω _ hK hl h hk fun y p v F' H' hk' h' => ?_⟩
    obtain ⟨hc, hk'⟩ := ck_some hk'
    obtain ⟨v', fp', v0, fq, e2, e3, r1, r2, nd, ow, fin⟩ := h'.absorb (i := es.length + i) (by rw [at_app _ rfl]; exact h1 p)
    rw [at_app _ hl, e1] at e2
    cases e2; cases e3
    obtain ⟨q1, vs, fps, e4, hq, ra, rfl⟩ := r1
    cases e4
    have hlen := ra.length
    have hc' := of_decide_eq_true hc
    refine ⟨_, vs, _, rfl, rfl, hq, by rw [SZ_eq]; omega, ?_⟩
    have fin' := fin (List α) (ls Sa) (xs p ++ [y]) (upd H' q0 (.lst (vs ++ [v]))) (q0 :: (fps ++ fq)) (fun a na _ => upd_ne fun z => na (by rw [z]; simp)) (fun a m => ?_) ?_ (by simpa using nd) (fun a m => ?_)
    · rw [List.set_append_right _ _ (Nat.le_add_right _ _), Nat.add_sub_cancel_left] at fin'
      exact hr y p C F' _ σs es σ kn ω D hK hl fin' hk' qn qb qc qr
    · by_cases z : a = q0
      · subst z; rw [upd_same]; exact fun z => by cases z
      · rw [upd_ne z]; exact m
    · have nm : q0 ∉ fps ++ fq := by
        have : (q0 :: (fps ++ fq)).Nodup := by simpa using nd
        exact (List.nodup_cons.mp this).1
      refine ⟨q0, vs ++ [v], fps ++ fq, rfl, upd_same, RelAll.imp (fun fr' v' x' s q => Sa.frame (fun a m => upd_ne fun z => nm (z ▸ s a m)) q) (ra.app r2), rfl⟩
    · refine ⟨?_, .inl (by simpa using m)⟩
      by_cases z : a = q0
      · subst z; rw [upd_same]; exact fun z => by cases z
      · rw [upd_ne z]; exact (ow a (by simpa using m)).2.2)
/-- x[j] = e, x a list of one's own whose items are shared -/
theorem lb_setix {E : Enc α} {f : (α → P1 → Option Ω) → Option Ω} {f2 : α → P1 → (Int → P2 → Option Ω) → Option Ω} {fr : α → P1 → Int → P2 → List α → (J → Option Ω) → Option Ω} {e1 : P1 → Env} {e2 : α → P1 → P2 → Env} {w : Option V} {x1 : P1 → List α} {xs : α → P1 → P2 → List α} {ie : Expr} {np sp : Pos} (i : Nat)
    (he : LX X env e (it E) e1 f) (h1 : ∀ p, (e1 p)[i]? = some (.st w (List α) (ls (it E)) (x1 p))) (hi : ∀ y p, LX X (e1 p) ie (it eI) (e2 y p) (f2 y p)) (h2 : ∀ y p p2, (e2 y p p2)[i]? = some (.st w (List α) (ls (it E)) (xs y p p2)))
    (hr : ∀ y p j p2 zs, LB X SR envR kr bk ct ((e2 y p p2).set i (.st w (List α) (ls (it E)) zs)) rest envJ (fr y p j p2 zs))
    (hN : X.N[i]? = some nm := by rfl) (hv : Vis X.env.scope nm := by first | exact Or.inl rfl | exact Or.inr (Or.inl rfl) | exact Or.inr (Or.inr rfl))
    (hd : (nm == ("__debug__" : Str)) = false := by decide) (hcd : (nm == ("__classdict__" : Str)) = false := by decide)
    (ha : ∀ v, assign (.Subscript (.Name nm np) ie sp) X.env v = (do
      let ov ← holding [v] (eval (.Name nm np) X.env)
      let iv ← holding [v, ov] (eval ie X.env)
      standAt sp
      holding [v, ov, iv] (setItem ov iv v)
      release [v, ov, iv] []) := by intro _; rfl)
    (hs : swapsWithSole [.Subscript (.Name nm np) ie sp] e pos.line X.env = pure false := by rfl) (hw : swappedStores [.Subscript (.Name nm np) ie sp] e X.env = pure none := by rfl) (ha1 : (assignEach [.Subscript (.Name nm np) ie sp] X.env).map (·.2) = [assign (.Subscript (.Name nm np) ie sp) X.env] := by rfl) :
    LB X SR envR kr bk ct env (.Assign [.Subscript (.Name nm np) ie sp] e pos :: rest) envJ (fun kn => f fun y p => f2 y p fun j p2 => (ixN (xs y p p2).length j).bind fun n => fr y p j p2 ((xs y p p2).set n y) kn) :=
  fun C F H σs es σ kn ω D hK hl h hk qn qb qc qr => tSs.of X (pss_cons (ps_asg (peC X) (pg_sub (pe_var hN hv hd hcd) (peC X) set_list ha) hs hw ha1) (pssC X)) (he C F H σs es σ _ ω _ hK hl h hk fun y p v F' H' hk' h' => by
    obtain ⟨l, fp, e3, r⟩ := h'.pop.lookF hl (h1 p)
    refine ⟨l, e3, hi y p C F' H' (some v :: σs) (.st none α (it E) y :: es) σ _ ω _ hK (by simp [hl]) h' hk' fun j p2 u F2 H2 hk2 h3 => ?_⟩
    obtain ⟨n, hn, hk2⟩ := bind_some hk2
    have hu : u = .int j := by
      obtain ⟨v', fp, e1, r⟩ := h3.look (i := 0) rfl
      simp at e1; subst e1
      obtain ⟨_, r⟩ := r
      cases r; rfl
    subst hu
    have hv' : Rep C.K F2 v (E.enc y) := by
      obtain ⟨v', fp, e1, r⟩ := h3.look (i := 1) rfl
      simp at e1; subst e1
      exact r.2
    have h4 : ER C F2 H2 (σs ++ σ) (es ++ e2 y p p2) := h3.pop.pop
    obtain ⟨l', fp', e4, r1, nd, ow, fin⟩ := h4.mut (i := es.length + i) (by rw [at_app _ rfl]; exact h2 y p p2)
    rw [at_app _ hl, e3] at e4
    cases e4
    obtain ⟨q1, vs, fps, rfl, hq, ra, rfl⟩ := r1
    obtain ⟨rfl, rp⟩ := ra.zero
    have hlen : vs.length = (xs y p p2).length := by have := rp.length; simpa using this
    refine ⟨q1, vs, j, n, rfl, rfl, hq, by rw [hlen]; exact hn, ?_⟩
    have fin' := fin (List α) (ls (it E)) ((xs y p p2).set n y) (upd H2 q1 (.lst (vs.set n v))) [q1] (fun a na _ => upd_ne fun z => na (by rw [z]; simp)) (fun a m => ?_) ⟨q1, vs.set n v, [], rfl, upd_same, ?_, rfl⟩ (by simp) (fun a m => ?_)
    · rw [List.set_append_right _ _ (Nat.le_add_right _ _), Nat.add_sub_cancel_left] at fin'
      exact hr y p j p2 _ C F2 _ σs es σ kn ω D hK hl fin' hk2 qn qb qc qr
    · by_cases z : a = q1
      · subst z; rw [upd_same]; exact fun z => by cases z
      · rw [upd_ne z]; exact m
    · have := rp.set hv' (i := n)
      rw [← List.map_set] at this
      exact this.zero
    · simp at m; subst m
      exact ⟨by rw [upd_same]; exact (fun z => by cases z), .inl (by simp)⟩)
end
end Z

set_option Elab.async false
set_option linter.all false
set_option maxRecDepth 100000
namespace Z
open PySem PySem.Spec PyProof.Rows L2

/-! ### calls of defs -/
/-- slots that own nothing -/
inductive ShE : Env → Prop
  | nil : ShE []
  | cons {τ : Type} {S : Stor τ} {x : τ} {en : Env} : Cp S → ShE en → ShE (.st none τ S x :: en)
theorem ShE.slot : ∀ {en : Env}, ShE en → ∀ (i : Nat) (s : Slot), en[i]? = some s → ∃ (τ : Type) (S : Stor τ) (x : τ), s = Slot.st none τ S x ∧ Cp S
  | _, .nil, i, s, e => by simp at e
  | _, .cons cp r, 0, s, e => ⟨_, _, _, by simp at e; exact e.symm, cp⟩
  | _, .cons cp r, i + 1, s, e => r.slot i s (by simpa using e)
section
variable {C : Ck} {F F' H H' : Hp} {σ : List (Option V)} {env : Env} {o : Option V} {τ τ0 R : Type} {S : Stor τ} {S0 : Stor τ0} {SR : Stor R} {x : τ} {y : τ0} {v : V} {w : Option V} {i : Nat} {r : R}
theorem lt_of_get {α : Type _} {l : List α} {i : Nat} {a : α} (h : l[i]? = some a) : i < l.length := (List.getElem?_eq_some_iff.mp h).1
/-- into a def: its arguments are shared -/
theorem ER.enter {σa : List (Option V)} {ea : Env} (h : ER C F H (σa ++ σ) (ea ++ env)) (hl : σa.length = ea.length) (sh : ShE ea) : ER ⟨C.K, H, F, H, []⟩ F H σa ea := by
  obtain ⟨fp, q⟩ := h.sl
  refine ⟨fun _ _ e => e, h.sF, fun a m => .inl m, fun a m => m, hl, fun _ => [], fun j s e => ?_, fun j hj a ha => (nomatch ha), fun j l _ _ a ha => (nomatch ha), fun j _ => List.nodup_nil⟩
  have hj := lt_of_get e
  obtain ⟨τ, S, x, rfl, cp⟩ := sh.slot j s e
  obtain ⟨v, e1, r, _⟩ := q.ok j _ (by rw [List.getElem?_append_left hj]; exact e)
  rw [List.getElem?_append_left (by omega)] at e1
  have z := cp.nil r
  rw [z] at r
  exact ⟨v, e1, r, fun _ m => nomatch m⟩
def hun (F G : Hp) : Hp := fun a => match F a with
  | some o => some o
  | none => G a
theorem same_hunL : Same F (hun F F') := fun a o e => by unfold hun; rw [e]
theorem same_hunR (s : Same F H) (s' : Same F' H) : Same F' (hun F F') := fun a o e => by
  unfold hun
  cases q : F a with
  | none => exact e
  | some u =>
    have h1 := s a u q
    have h2 := s' a o e
    rw [h1] at h2
    exact h2
theorem hun_same (s : Same F H) (s' : Same F' H) : Same (hun F F') H := fun a o e => by
  unfold hun at e
  cases q : F a with
  | none => rw [q] at e; exact s' a o e
  | some u' =>
    rw [q] at e
    have e' : u' = o := Option.some.inj e
    rw [← e']
    exact s a u' q
theorem hun_some {a : Addr} (h : hun F F' a ≠ none) : F a ≠ none ∨ F' a ≠ none := by
  unfold hun at h
  cases q : F a with
  | none => rw [q] at h; exact .inr h
  | some u => exact .inl (by intro z; cases z)
theorem hun_none {a : Addr} (h : F a = none) (h' : F' a = none) : hun F F' a = none := by
  unfold hun; rw [h]; exact h'
/-- out of it -/
theorem ER.back (h : ER C F H σ env) (hc : ER ⟨C.K, H, F, H, []⟩ F' H' [some v] [.st none R SR r]) : ∃ F'', ER C F'' H' (some v :: σ) (.st none R SR r :: env) := by
  have sFH : Same F H' := fun a o e => hc.sB a o (h.sF a o e)
  have nw : ∀ a, hun F F' a ≠ none → F a ≠ none ∨ H a = none := fun a m => by
    rcases hun_some m with z | z
    · exact .inl z
    · exact hc.gr a z
  have h2 := h.grow (F' := hun F F') (H' := H') hc.sB same_hunL (hun_same sFH hc.sF) nw
  obtain ⟨fp, q⟩ := h.sl
  have q2 := q.grow h hc.sB (F' := hun F F') same_hunL nw
  obtain ⟨fq, qc⟩ := hc.sl
  obtain ⟨v', e1, rr, ne⟩ := qc.ok 0 _ rfl
  simp at e1; subst e1
  refine ⟨hun F F', h2.sB, h2.sF, h2.gr, h2.up, by simp [h2.len], _, q2.push (fq := fq 0) ⟨v, rfl, SR.monoF (same_hunR sFH hc.sF) rr, fun a m => h.hnone (ne a m)⟩ (fun a m => ?_) (qc.nd 0 (by simp)) fun j hj a ha m => ?_⟩
  · obtain ⟨b, f, c⟩ := qc.own 0 (by simp) a m
    exact ⟨h.bnone b, hun_none (h.fnone b) f, c⟩
  · exact (q.own j hj a ha).2.2 (ne a m)
/-- the promise of a def over shared arguments -/
def spP (K : Fg) {A R : Type} (sl : A → Env) (SR : Stor R) (m : A → Option R) : Sp := fun vs H Q _ => ∃ (B F : Hp) (a : A) (r : R), m a = some r ∧ (vs.map some).length = (sl a).length ∧ ER ⟨K, B, F, H, []⟩ F H (vs.map some) (sl a) ∧
  ∀ F' H' v, ER ⟨K, B, F, H, []⟩ F' H' [some v] [.st none R SR r] → Q v H'
/-- .. that changes its first argument -/
def spI (K : Fg) {A T R : Type} (ST : Stor T) (sl : A → Env) (SR : Stor R) (m : T → A → Option (R × T)) : Sp := fun vs H Q _ => ∃ (B F : Hp) (io : List Addr) (t : T) (a : A) (r : R) (t' : T) (v0 : V) (vs' : List V), vs = v0 :: vs' ∧ m t a = some (r, t') ∧ (vs'.map some).length = (sl a).length ∧
  ER ⟨K, B, F, H, io⟩ F H (vs.map some) (.st (some v0) T ST t :: sl a) ∧ ∀ F' H' v, ER ⟨K, B, F, H, io⟩ F' H' [some v, some v0] [.st none R SR r, .st (some v0) T ST t'] → Q v H'
theorem ER.head {s : Slot} (h : ER C F H (o :: σ) (s :: env)) : ER C F H [o] [s] :=
  h.perm rfl id fun j s' e => by
    cases j with
    | zero => exact .inr ⟨by simpa using e, rfl, fun l _ el _ z => by simpa using z⟩
    | succ j => simp at e
theorem ER.head2 {o2 : Option V} {s s2 : Slot} (h : ER C F H (o :: o2 :: σ) (s :: s2 :: env)) : ER C F H [o, o2] [s, s2] :=
  h.perm rfl id fun j s' e => by
    match j, e with
    | 0, e => exact .inr ⟨by simpa using e, rfl, fun l _ el _ z => by simpa using z⟩
    | 1, e => exact .inr ⟨by simpa using e, rfl, fun l _ el _ z => by simpa using z⟩
    | j + 2, e => simp at e
theorem ER.padR (h : ER C F H σ env) : ∀ n : Nat, ER C F H (σ ++ List.replicate n none) (env ++ List.replicate n .un) := fun n =>
  h.perm (by simp [h.len]) id fun j s' e => by
    by_cases z : j < env.length
    · rw [List.getElem?_append_left z] at e
      exact .inr ⟨e, by rw [List.getElem?_append_left (by rw [h.len]; exact z)]; rfl, fun l _ _ _ y => y⟩
    · rw [List.getElem?_append_right (by omega), List.getElem?_replicate] at e
      split at e
      · exact .inl (Option.some.inj e).symm
      · cases e
end

section
variable {P : Program} {w : World} {K : Fg} {mg : Str → Option Value} {base : Heap}
/-- THE RULE for a def over shared arguments: its body walked -/
theorem fnP {x qual : Str} {st : Stmt} {f : Addr} {fd : FuncData} {N ps : List Str} {k : Nat} {A R : Type} {sl : A → Env} {SR : Stor R} {m : A → Option R} (F : Fun K x qual st f fd) (S : FnScope N ps (defScope st)) (n : Nat) (hn : N.length - ps.length = n) (hl : ∀ a, (sl a).length = ps.length)
    (hb : ∀ (cdv : Value) (A' : Around) (outer : List PySem.Env) (s : Shared) (H : Hp) (E : XK), Room k (A'.deeper (envOfC qual (defScope st) s.heap.objs.size f cdv)) → ∀ a : A,
      LB (cxOf CX0 P w K mg base N qual (defScope st) f cdv A' outer s H E).nox SR (fun _ : Unit => List.replicate (ps.length + n) .un) (fun (r : R) (_ : Unit) => some r) (noLp R) (noLp R) (sl a ++ List.replicate n .un) (defBody st) (fun z : Empty => z.elim) (fun _ => m a)) :
    FnOk P w K mg base CX0 (k + 1) f fd ps (spP K sl SR m) := by
  have hlen : ∀ vs H Q E, spP K sl SR m vs H Q E → vs.length = ps.length := fun vs H Q E h => by
    obtain ⟨B, F0, a, r, _, h2, _⟩ := h
    rw [List.length_map] at h2; rw [h2, hl a]
  refine F.ok S hlen fun cdv A' outer s H vs Q E hr h => ?_
  have hlv := hlen vs H Q E h
  obtain ⟨B, F0, a, r, hm, _, her, q⟩ := h
  refine ⟨_, pssC _, ?_⟩
  have hst : L2.start N vs = vs.map some ++ List.replicate n none := by unfold L2.start; rw [hlv, hn]
  rw [hst]
  refine hb cdv A' outer s H E hr a ⟨K, B, F0, H, []⟩ F0 H [] [] _ (fun z => z.elim) r { nx := fun _ H' => Q .non H', rt := Q } rfl rfl (her.padR n) hm (fun z => z.elim) (fun z => z.elim) (fun z => z.elim) ?_
  intro a' i v F' H' σ' e h'
  cases e
  exact q F' H' v h'.head
/-- .. that changes its first argument -/
theorem fnI {x qual : Str} {st : Stmt} {f : Addr} {fd : FuncData} {N ps : List Str} {k : Nat} {A T R : Type} {ST : Stor T} {sl : A → Env} {SR : Stor R} {m : T → A → Option (R × T)} (F : Fun K x qual st f fd) (S : FnScope N ps (defScope st)) (n : Nat) (hn : N.length - ps.length = n) (hl : ∀ a, (sl a).length + 1 = ps.length)
    (hb : ∀ (cdv : Value) (A' : Around) (outer : List PySem.Env) (s : Shared) (H : Hp) (E : XK), Room k (A'.deeper (envOfC qual (defScope st) s.heap.objs.size f cdv)) → ∀ (v0 : V) (t : T) (a : A),
      LB (cxOf CX0 P w K mg base N qual (defScope st) f cdv A' outer s H E).nox SR (fun t' : T => .st (some v0) T ST t' :: List.replicate (N.length - 1) .un) (fun (r : R) (t' : T) => some (r, t')) (noLp (R × T)) (noLp (R × T)) (.st (some v0) T ST t :: (sl a ++ List.replicate n .un)) (defBody st) (fun z : Empty => z.elim) (fun _ => m t a)) :
    FnOk P w K mg base CX0 (k + 1) f fd ps (spI K ST sl SR m) := by
  have hlen : ∀ vs H Q E, spI K ST sl SR m vs H Q E → vs.length = ps.length := fun vs H Q E h => by
    obtain ⟨B, F0, io, t, a, r, t', v0, vs', rfl, _, h2, _⟩ := h
    rw [List.length_map] at h2; rw [List.length_cons, h2, hl a]
  refine F.ok S hlen fun cdv A' outer s H vs Q E hr h => ?_
  have hlv := hlen vs H Q E h
  obtain ⟨B, F0, io, t, a, r, t', v0, vs', rfl, hm, _, her, q⟩ := h
  refine ⟨_, pssC _, ?_⟩
  have hst : L2.start N (v0 :: vs') = (v0 :: vs').map some ++ List.replicate n none := by unfold L2.start; rw [hlv, hn]
  rw [hst]
  refine hb cdv A' outer s H E hr v0 t a ⟨K, B, F0, H, io⟩ F0 H [] [] _ (fun z => z.elim) (r, t') { nx := fun _ H' => Q .non H', rt := Q } rfl rfl (her.padR n) hm (fun z => z.elim) (fun z => z.elim) (fun z => z.elim) ?_
  intro a' i v F' H' σ' e h'
  cases e
  have hls : σ'.length = N.length - 1 + 1 := by have := h'.len; simpa using this
  cases σ' with
  | nil => simp at hls
  | cons o σ' =>
    have h3 : ER ⟨K, B, F0, H, io⟩ F' H' (some v :: o :: σ') (.st none R SR r :: .st (some v0) T ST t' :: List.replicate (N.length - 1) .un) := h'
    have ho : o = some v0 := by
      obtain ⟨fp, qq⟩ := h3.sl
      obtain ⟨v', e1, _, e2⟩ := qq.ok 1 _ rfl
      simp at e1
      rw [e1, e2.1]
    subst ho
    exact q F' H' v h3.head2
end
section
variable {X : Cx} {Ω : Type} {env : Env} {nm : Str} {pos np : Pos} {e : Expr} {xs : List Expr} {Pt A R T : Type} {SR : Stor R} {ST : Stor T} {e' : Pt → Env} {sl : A → Env} {k : Nat} {f : Addr} {fd : FuncData} {ps : List Str}
/-- f(..) -/
theorem lx_call {m : A → Option R} {fa : (A → Pt → Option Ω) → Option Ω} (Fn : FnOk X.prog X.w X.K X.mg X.base CX0 k f fd ps (spP X.K sl SR m)) (hr : Room k X.A) (hm : X.mg nm = some (.ref f)) (hk : PySem.W.keepIn X.K (.ref f) = true) (hb : Binds X.K fd ps []) (sh : ∀ a, ShE (sl a))
    (ha : LA X env (e :: xs) sl e' fa) (hg : Gl X nm := by rfl) (hdb : (nm == ("__debug__" : Str)) = false := by decide) (he : starEach (e :: xs) X.env = (false, eval e X.env) :: starEach xs X.env := by rfl) (hpl : (backTo pos (starEach xs X.env)).any (·.1) = false := by rfl) :
    LX X env (.Call (.Name nm np) (e :: xs) [] pos) SR e' (fun k => fa fun a p => (m a).bind fun r => k r p) :=
  fun C F H σs es σ k ω Q hK hl h hk' q => tE.of X (pe_call Fn hr hg hm hk hb .nil pass0 (paC X) hdb he hpl) (ha C F H σs es σ _ ω _ hK hl h hk' fun a p vs F' H' hk2 hlv h' => by
    obtain ⟨r, hm', hk2⟩ := bind_some hk2
    show spP X.K sl SR m (vs ++ []) H' Q _
    rw [List.append_nil, ← hK]
    exact ⟨H', F', a, r, hm', hlv, h'.enter hlv (sh a), fun F2 H2 v h2 => by
      obtain ⟨F3, h3⟩ := (h'.popN hlv).back h2
      exact q r p v F3 H2 hk2 h3⟩)
theorem lx_call0 {m : Unit → Option R} (Fn : FnOk X.prog X.w X.K X.mg X.base CX0 k f fd ps (spP X.K (fun _ : Unit => []) SR m)) (hr : Room k X.A) (hm : X.mg nm = some (.ref f)) (hk : PySem.W.keepIn X.K (.ref f) = true) (hb : Binds X.K fd ps [])
    (hg : Gl X nm := by rfl) (hdb : (nm == ("__debug__" : Str)) = false := by decide) :
    LX X env (.Call (.Name nm np) [] [] pos) SR (fun _ : Unit => env) (fun (k : R → Unit → Option Ω) => (m ()).bind fun r => k r ()) :=
  fun C F H σs es σ k ω Q hK hl h hk' q => tE.of X (pe_call0 Fn hr hg hm hk hb .nil pass0 hdb) (by
    obtain ⟨r, hm', hk2⟩ := bind_some hk'
    show spP X.K _ SR m [] H Q E0
    rw [← hK]
    refine ⟨H, F, (), r, hm', rfl, ER.enter (σa := []) (ea := []) h rfl .nil, fun F2 H2 v h2 => ?_⟩
    obtain ⟨F3, h3⟩ := h.back h2
    exact q r () v F3 H2 hk2 h3)
/-- into a def that changes the object of slot i -/
theorem ER.enterI {C : Ck} {F H : Hp} {σ : List (Option V)} {env : Env} {w : Option V} {t : T} {v0 : V} {i : Nat} {σa : List (Option V)} {ea : Env} (h : ER C F H (σa ++ σ) (ea ++ env)) (hl : σa.length = ea.length) (sh : ShE ea) (hi : env[i]? = some (.st w T ST t)) (hv : σ[i]? = some (some v0)) :
    ∃ B io, ER ⟨C.K, B, F, H, io⟩ F H (some v0 :: σa) (.st (some v0) T ST t :: ea) ∧ ∀ (R : Type) (SR : Stor R) (r : R) (t' : T) (F' H' : Hp) (v : V), ER ⟨C.K, B, F, H, io⟩ F' H' [some v, some v0] [.st none R SR r, .st (some v0) T ST t'] →
      ∃ F'', ER C F'' H' (some v :: σ) (.st none R SR r :: env.set i (.st w T ST t')) := by
  have h0 : ER C F H σ env := h.popN hl
  obtain ⟨fp, q⟩ := h0.sl
  have hil := lt_of_get hi
  obtain ⟨v', e1, rr, kk⟩ := q.ok i _ hi
  rw [hv] at e1
  simp at e1; subst e1
  have he := h.enter hl sh
  obtain ⟨fe, qe⟩ := he.sl
  refine ⟨fun a => if a ∈ fp i then none else H a, fp i, ⟨fun a o e => ?_, h0.sF, fun a m => .inl m, fun a m => m, by simp [hl], _, Fps.push (fp := fun _ => []) ⟨fun j s e => ?_, fun j hj a ha => (nomatch ha), fun j l _ _ a ha => (nomatch ha), fun j _ => List.nodup_nil⟩ (fq := fp i) ⟨v0, rfl, rr, rfl, fun a m => .inr m⟩ (fun a m => ⟨if_pos m, (q.own i hil a m).2⟩) (q.nd i hil) fun j _ a ha => (nomatch ha)⟩, ?_⟩
  · have e : (if a ∈ fp i then none else H a) = some o := e
    by_cases m : a ∈ fp i
    · rw [if_pos m] at e; cases e
    · rw [if_neg m] at e; exact e
  · obtain ⟨τ, S, x, rfl, cp⟩ := sh.slot j s e
    obtain ⟨v, e1, r, _⟩ := qe.ok j _ e
    have z := cp.nil r
    rw [z] at r
    exact ⟨v, e1, r, fun _ m => nomatch m⟩
  · intro R SR r t' F' H' v hc
    have bk : ∀ a, H a ≠ none → a ∉ fp i → H' a = H a := fun a m n => by
      cases e : H a with
      | none => exact absurd e m
      | some o => exact hc.sB a o (by show (if a ∈ fp i then none else H a) = _; rw [if_neg n]; exact e)
    have fn : ∀ a, F a ≠ none → a ∉ fp i := fun a m z => m (q.own i hil a z).2.1
    have bn : ∀ a, C.B a ≠ none → a ∉ fp i := fun a m z => m (q.own i hil a z).1
    have sFH : Same F H' := fun a o e => by
      have m : F a ≠ none := by rw [e]; exact fun z => by cases z
      rw [bk a (same_some h0.sF m) (fn a m)]; exact h0.sF a o e
    have up' : ∀ a, H a ≠ none → H' a ≠ none := fun a m => hc.up a m
    obtain ⟨fc, qc⟩ := hc.sl
    obtain ⟨v1, ev1, r1, n1⟩ := qc.ok 0 _ rfl
    obtain ⟨v2, ev2, r2, n2⟩ := qc.ok 1 _ rfl
    simp at ev1 ev2; subst ev1; subst ev2
    have l0 : 0 < ([.st none R SR r, .st (some v0) T ST t'] : Env).length := by simp
    have l1 : 1 < ([.st none R SR r, .st (some v0) T ST t'] : Env).length := by simp
    have i1 : ∀ a ∈ fc 1, H a = none ∨ a ∈ fp i := n2.2
    have sep01 : ∀ a ∈ fc 0, a ∉ fc 1 := fun a m z => by have := qc.sep 0 1 l0 l1 a m z; omega
    have fnn : ∀ a, (H a = none ∨ a ∈ fp i) → F a = none := fun a m => by
      rcases m with m | m
      · exact h0.fnone m
      · exact (q.own i hil a m).2.1
    have bnn : ∀ a, (H a = none ∨ a ∈ fp i) → C.B a = none := fun a m => by
      rcases m with m | m
      · exact h0.bnone m
      · exact (q.own i hil a m).1
    have jH : ∀ j, j < env.length → j ≠ i → ∀ a ∈ fp j, ¬ (H a = none ∨ a ∈ fp i) := fun j hj ne a ha z => by
      rcases z with z | z
      · exact (q.own j hj a ha).2.2 z
      · exact ne (q.sep j i hj hil a ha z)
    refine ⟨hun F F', fun a o e => ?_, hun_same sFH hc.sF, fun a m => ?_, fun a m => up' a (h0.up a m), by simp [h0.len], _, Fps.push (fp := fun j => if j = i then fc 1 else fp j) ⟨fun j s ej => ?_, fun j hj a ha => ?_, fun j l hj hl a ha hb => ?_, fun j hj => ?_⟩ (fq := fc 0) ⟨v, rfl, SR.monoF (same_hunR sFH hc.sF) r1, fun a m => h0.hnone (n1 a m)⟩ (fun a m => ?_) (qc.nd 0 l0) fun j hj a ha m => ?_⟩
    · have m : C.B a ≠ none := by rw [e]; exact fun z => by cases z
      rw [bk a (same_some h0.sB m) (bn a m)]; exact h0.sB a o e
    · rcases hun_some m with z | z
      · exact h0.gr a z
      · rcases hc.gr a z with y | y
        · exact h0.gr a y
        · exact .inr (h0.hnone y)
    · by_cases z : j = i
      · subst z
        rw [List.getElem?_set_self hil] at ej
        cases ej
        simp only [if_pos]
        refine ⟨v0, by rw [hv]; rfl, ST.monoF (same_hunR sFH hc.sF) r2, ?_⟩
        cases w with
        | none =>
          intro a ha
          rcases i1 a ha with m | m
          · exact h0.hnone m
          · exact kk a m
        | some w0 =>
          refine ⟨kk.1, fun a ha => ?_⟩
          rcases i1 a ha with m | m
          · exact .inl (h0.hnone m)
          · exact kk.2 a m
      · rw [List.getElem?_set_ne (fun y => z y.symm)] at ej
        have hj := lt_of_get ej
        simp only [if_neg z]
        exact (q.ok j s ej).go same_hunL (fun a m => bk a (same_some h0.sB m) (bn a m)) fun a ha => bk a (q.own j hj a ha).2.2 fun y => jH j hj z a ha (.inr y)
    · have hj' : j < env.length := by simpa using hj
      by_cases z : j = i
      · simp only [if_pos z] at ha
        exact ⟨bnn a (i1 a ha), hun_none (fnn a (i1 a ha)) (qc.own 1 l1 a ha).2.1, (qc.own 1 l1 a ha).2.2⟩
      · simp only [if_neg z] at ha
        obtain ⟨b, f, c⟩ := q.own j hj' a ha
        refine ⟨b, hun_none f ?_, up' a c⟩
        cases e : F' a with
        | none => rfl
        | some o =>
          rcases hc.gr a (by rw [e]; exact fun z => by cases z) with y | y
          · exact absurd f y
          · exact absurd y c
    · have hj' : j < env.length := by simpa using hj
      have hl' : l < env.length := by simpa using hl
      by_cases zj : j = i
      · by_cases zl : l = i
        · rw [zj, zl]
        · simp only [if_pos zj] at ha
          simp only [if_neg zl] at hb
          exact absurd (i1 a ha) (jH l hl' zl a hb)
      · simp only [if_neg zj] at ha
        by_cases zl : l = i
        · simp only [if_pos zl] at hb
          exact absurd (i1 a hb) (jH j hj' zj a ha)
        · simp only [if_neg zl] at hb
          exact q.sep j l hj' hl' a ha hb
    · have hj' : j < env.length := by simpa using hj
      by_cases z : j = i
      · simp only [if_pos z]; exact qc.nd 1 l1
      · simp only [if_neg z]; exact q.nd j hj'
    · have := n1 a m
      exact ⟨h0.bnone this, hun_none (h0.fnone this) (qc.own 0 l0 a m).2.1, (qc.own 0 l0 a m).2.2⟩
    · have hj' : j < env.length := by simpa using hj
      by_cases z : j = i
      · simp only [if_pos z] at ha
        exact sep01 a m ha
      · simp only [if_neg z] at ha
        exact (q.own j hj' a ha).2.2 (n1 a m)
/-- f(x, ..), f changes x's object -/
theorem lx_callI {w : Option V} {t0 : T} {t : Pt → T} {m : T → A → Option (R × T)} {fa : (A → Pt → Option Ω) → Option Ω} {vn : Str} {vp : Pos} (i : Nat) (Fn : FnOk X.prog X.w X.K X.mg X.base CX0 k f fd ps (spI X.K ST sl SR m)) (hr : Room k X.A) (hm : X.mg nm = some (.ref f)) (hk : PySem.W.keepIn X.K (.ref f) = true) (hb : Binds X.K fd ps []) (sh : ∀ a, ShE (sl a))
    (h0 : env[i]? = some (.st w T ST t0)) (ha : LA X env xs sl e' fa) (h1 : ∀ p, (e' p)[i]? = some (.st w T ST (t p))) (hN : X.N[i]? = some vn := by rfl) (hv : Vis X.env.scope vn := by first | exact Or.inl rfl | exact Or.inr (Or.inl rfl) | exact Or.inr (Or.inr rfl)) (hd : (vn == ("__debug__" : Str)) = false := by decide) (hcd : (vn == ("__classdict__" : Str)) = false := by decide)
    (hg : Gl X nm := by rfl) (hdb : (nm == ("__debug__" : Str)) = false := by decide) (he : starEach (Expr.Name vn vp :: xs) X.env = (false, eval (Expr.Name vn vp) X.env) :: starEach xs X.env := by rfl) (hpl : (backTo pos (starEach xs X.env)).any (·.1) = false := by rfl) :
    LX X env (.Call (.Name nm np) (.Name vn vp :: xs) [] pos) SR (fun p : Pt × T => (e' p.1).set i (.st w T ST p.2)) (fun k => fa fun a p => (m (t p) a).bind fun r => k r.1 (p, r.2)) :=
  fun C F H σs es σ k ω Q hK hl h hk' q => tE.of X (pe_call Fn hr hg hm hk hb .nil pass0 (paC X) hdb he hpl) (la_lend i h0 hN hv ha hd hcd he C F H σs es σ _ ω _ hK hl h hk' fun a p v0 vs F' H' hk2 hv0 hlv h' => by
    obtain ⟨⟨r, t'⟩, hm', hk2⟩ := bind_some hk2
    show spI X.K ST sl SR m (v0 :: vs ++ []) H' Q _
    rw [List.append_nil, ← hK]
    have h2 : ER C F' H' (vs.map some ++ (σs ++ σ)) (sl a ++ (es ++ e' p)) := h'
    obtain ⟨B, io, g1, g2⟩ := h2.enterI (i := es.length + i) (v0 := v0) hlv (sh a) (by rw [at_app _ rfl]; exact h1 p) (by rw [at_app _ hl]; exact hv0)
    refine ⟨B, F', io, t p, a, r, t', v0, vs, rfl, hm', hlv, g1, fun F2 H2 v h3 => ?_⟩
    obtain ⟨F3, h4⟩ := g2 R SR r t' F2 H2 v h3
    rw [List.set_append_right _ _ (Nat.le_add_right _ _), Nat.add_sub_cancel_left] at h4
    exact q r (p, t') v F3 H2 hk2 h4)
end
end Z

set_option Elab.async false
set_option linter.all false
set_option maxRecDepth 100000
namespace Z
open PySem PySem.Spec PyProof.Rows L2

/-! ### comprehensions -/
def compO {α β S Ω : Type} : List α → S → (α → S → (Option β → S → Option Ω) → Option Ω) → List β → (List β → S → Option Ω) → Option Ω
  | [], s, _, acc, k => k acc s
  | x :: xs, s, b, acc, k => b x s fun o s' => match o with
    | some y => ck (decide (acc.length < SZ)) (compO xs s' b (acc ++ [y]) k)
    | none => compO xs s' b acc k
section
variable {C : Ck} {F F' H H' : Hp} {σ σ' σs : List (Option V)} {env es : Env}
theorem ER.like (h : ER C F H (σs ++ σ) (es ++ env)) (hl : σs.length = es.length) (hl2 : σ'.length = σ.length) (he : ∀ (j : Nat) (s : Slot), env[j]? = some s → s = Slot.un ∨ σ'[j]? = σ[j]?) : ER C F H (σs ++ σ') (es ++ env) := by
  have hls := h.lenF hl
  refine h.perm (by simp [hl, hl2, hls]) id fun j s' e => ?_
  by_cases z : j < es.length
  · exact .inr ⟨e, by rw [id, List.getElem?_append_left (by omega), List.getElem?_append_left (by omega)], fun l _ _ _ y => y⟩
  · obtain ⟨m, rfl⟩ : ∃ m, j = es.length + m := ⟨j - es.length, by omega⟩
    have e' := e
    rw [at_app _ rfl] at e'
    rcases he m s' e' with y | y
    · exact .inl y
    · exact .inr ⟨e, by rw [id, at_app _ hl, at_app _ hl, y], fun l _ _ _ y => y⟩
end
section
variable (X : Cx) {Ω : Type}
def tTl (ifs : List Expr) : TT := fun σ H Q => ∀ pins s, Inv X pins σ H s → wpAny (model X.prog X.w) X.A (forIn ifs true fun c r => if r = true then do let ok ← isTrue c X.env (eval c X.env); pure (ForInStep.yield ok) else pure (ForInStep.yield r)) (TP X pins σ Q) X.xe s
theorem ptsC {ifs : List Expr} : PTs X ifs (tTl X ifs) := ⟨fun pins s σ H Q I h => h pins s I⟩
theorem tTl.of {ifs : List Expr} {t : TT} {σ : L2.St} {H : Hp} {Q : Bool → Hp → Prop} (h : PTs X ifs t) (q : t σ H Q) : tTl X ifs σ H Q := fun pins s I => h.run pins s σ H Q I q
/-- the tests of a comprehension -/
def LTl (env : Env) (ifs : List Expr) {P : Type} (env' : P → Env) (f : (Bool → P → Option Ω) → Option Ω) : Prop :=
  ∀ (C : Ck) (F H : Hp) (σs : List (Option V)) (es : Env) (σ : List (Option V)) (k : Bool → P → Option Ω) (ω : Ω) (Q : Bool → Hp → Prop), C.K = X.K → σs.length = es.length → ER C F H (σs ++ σ) (es ++ env) → f k = some ω →
    (∀ a p F' H', k a p = some ω → ER C F' H' (σs ++ σ) (es ++ env' p) → Q a H') → tTl X ifs σ H Q
end
/-- the contexts of a block's turns -/
structure Blk (X : Cx) (scope : Scope) (Y : Cx) : Prop where
  is : ∃ (s : Shared) (H : Hp) (C : Addr) (cl : List (Str × Addr)) (fp : List Addr), Y = X.blk s H scope (compEnvC scope cl C X.env) fp
section
variable {X : Cx} {Ω : Type} {env : Env} {nm : Str} {pos spos np : Pos} {a b c e elt tg iter : Expr} {ifs : List Expr} {P P1 P2 T : Type} {τ τ1 τ2 α β : Type} {S : Stor τ} {Sa : Stor α} {Sb : Stor β} {E : Enc τ} {e' : P → Env} {scope : Scope} {own : List (Str × Nat)} {ix : List Nat}
theorem ltl_nil : LTl X env [] (fun _ : Unit => env) (fun (k : Bool → Unit → Option Ω) => k true ()) :=
  fun C F H σs es σ k ω Q hK hl hr hk q => tTl.of X pts_nil (q true () F H hk hr)
theorem ltl_one {f : (Bool → P → Option Ω) → Option Ω} (h : LT X env c e' f) : LTl X env [c] e' f :=
  fun C F H σs es σ k ω Q hK hl hr hk q => tTl.of X (pts_one (ptC X)) (h C F H σs es σ k ω Q hK hl hr hk q)
theorem lc_run {envT : T → Env} {envX : T → α → Env} {eT : T → α → P1 → Env} {eE : T → α → P1 → P2 → Env} {f : (List α → P → Option Ω) → Option Ω} {ft : T → α → (Bool → P1 → Option Ω) → Option Ω} {fe : T → α → P1 → (β → P2 → Option Ω) → Option Ω}
    (hi : LI X env tg iter Sa e' f) (s0 : P → T) (h0 : ∀ p, Sub (e' p) (envT (s0 p))) (hu : ∀ (t : T) (i : Nat) (s : Slot), i ∈ own.map (·.2) → (envT t)[i]? = some s → s = Slot.un)
    (hg : ∀ Y, Blk X scope Y → ∀ t, LG Y (own.map (·.2)) (envT t) tg Sa (envX t)) (ht : ∀ Y, Blk X scope Y → ∀ t x, LTl Y (envX t x) ifs (eT t x) (ft t x)) (he : ∀ Y, Blk X scope Y → ∀ t x p, LX Y (eT t x p) elt Sb (eE t x p) (fe t x p))
    (tn : T → α → P1 → P2 → T) (hn : ∀ t x p q, Sub (eE t x p q) (envT (tn t x p q))) (tf : T → α → P1 → T) (hf : ∀ t x p, Sub (eT t x p) (envT (tf t x p)))
    {C : Ck} {F H : Hp} {σs : List (Option V)} {es : Env} {σ : List (Option V)} {k : List β → T → Option Ω} {ω : Ω} {Q : VK} (hK : C.K = X.K) (hl : σs.length = es.length) (h : ER C F H (σs ++ σ) (es ++ env))
    (hk : (f fun xs p => compO xs (s0 p) (fun x t kc => ft t x fun b p1 => if b = true then fe t x p1 fun y p2 => kc (some y) (tn t x p1 p2) else kc none (tf t x p1)) [] k) = some ω)
    (q : ∀ ys t v F' H', k ys t = some ω → ER C F' H' (some v :: (σs ++ σ)) (.st none (List β) (ls Sb) ys :: (es ++ envT t)) → Q v H') :
    tLc (tI X tg iter) (fun v σ H Q => ∀ Y, Blk X scope Y → tG Y tg v σ H Q) (fun σ H Q => ∀ Y, Blk X scope Y → tTl Y ifs σ H Q) (fun σ H Q => ∀ Y, Blk X scope Y → tE Y elt σ H Q) (own.map (·.2)) σ H Q := by
  refine hi C F H σs es σ _ ω _ hK hl h hk fun xs p Jt F' H' σx ex hk' h' hy => ?_
  intro D nD
  have like : ∀ {F2 H2 σp ep t}, σp.length = ep.length → ER C F2 H2 (σp ++ (σx ++ (σs ++ σ))) (ep ++ (ex ++ (es ++ envT t))) → ER C F2 H2 (σp ++ (σx ++ (σs ++ wipe σ (own.map (·.2))))) (ep ++ (ex ++ (es ++ envT t))) := fun {F2 H2 σp ep t} hlp h2 => by
    have h3 : ER C F2 H2 ((σp ++ σx ++ σs) ++ σ) ((ep ++ ex ++ es) ++ envT t) := by simpa [List.append_assoc] using h2
    have := h3.like (σ' := wipe σ (own.map (·.2))) (by simp [hlp, hl, hy.len]) (wipe_length _ _) fun j s e => by
      by_cases m : j ∈ own.map (·.2)
      · exact .inl (hu t j s m e)
      · refine .inr ?_
        rw [wipe_get, if_neg m]
    simpa [List.append_assoc] using this
  have unlike : ∀ {F2 H2 σp ep t σ4}, σp.length = ep.length → σ4.length = σ.length → wipe σ4 (own.map (·.2)) = wipe σ (own.map (·.2)) → ER C F2 H2 (σp ++ (σx ++ (σs ++ σ4))) (ep ++ (ex ++ (es ++ envT t))) → ER C F2 H2 (σp ++ (σx ++ (σs ++ σ))) (ep ++ (ex ++ (es ++ envT t))) := fun {F2 H2 σp ep t σ4} hlp hl4 hw h2 => by
    have h3 : ER C F2 H2 ((σp ++ σx ++ σs) ++ σ4) ((ep ++ ex ++ es) ++ envT t) := by simpa [List.append_assoc] using h2
    have := h3.like (σ' := σ) (by simp [hlp, hl, hy.len]) hl4.symm fun j s e => by
      by_cases m : j ∈ own.map (·.2)
      · exact .inl (hu t j s m e)
      · refine .inr ?_
        have := congrArg (fun l => l[j]?) hw
        simp only [wipe_get, if_neg m] at this
        exact this.symm
    simpa [List.append_assoc] using this
  have hnew : ER C F' (upd H' D (.lst [])) (some (.ref D) :: (σx ++ (σs ++ σ))) (.st none (List β) (ls Sb) [] :: (ex ++ (es ++ e' p))) := h'.newOw nD ⟨D, [], [], rfl, upd_same, .nil, rfl⟩
  refine ⟨fun i m H2 => m = xs.length - i ∧ i ≤ xs.length ∧ ∃ acc t F2, ER C F2 H2 (some (.ref D) :: (σx ++ (σs ++ σ))) (.st none (List β) (ls Sb) acc :: (ex ++ (es ++ envT t))) ∧
    compO (xs.drop i) t (fun x t kc => ft t x fun b p1 => if b = true then fe t x p1 fun y p2 => kc (some y) (tn t x p1 p2) else kc none (tf t x p1)) acc k = some ω,
    ⟨xs.length, by simp, Nat.zero_le _, [], s0 p, F', ER.sub hnew (.keep (((h0 p).pre es).pre ex)), by simpa using hk'⟩, ?_⟩
  rintro i m H2 ⟨rfl, hi', acc, t, F2, h2, hk2⟩
  obtain ⟨y1, y2⟩ := hy.go i F2 H2 [some (.ref D)] (σs ++ σ) [.st none (List β) (ls Sb) acc] (es ++ envT t) rfl h2
  by_cases hlt : i < xs.length
  · have ex1 : xs[i]? = some xs[i] := List.getElem?_eq_getElem hlt
    obtain ⟨g1, g2⟩ := y1 _ ex1
    have ed : xs.drop i = xs[i] :: xs.drop (i + 1) := List.drop_eq_getElem_cons hlt
    rw [ed] at hk2
    refine .inr ⟨g1, fun H3 => ∃ acc t F3, ER C F3 H3 (some (.ref D) :: (σx ++ (σs ++ σ))) (.st none (List β) (ls Sb) acc :: (ex ++ (es ++ envT t))) ∧
      compO (xs.drop (i + 1)) t (fun x t kc => ft t x fun b p1 => if b = true then fe t x p1 fun y p2 => kc (some y) (tn t x p1 p2) else kc none (tf t x p1)) acc k = some ω,
      fun H3 ⟨acc3, t3, F3, h3, hk3⟩ => ⟨xs.length - (i + 1), by omega, rfl, hlt, acc3, t3, F3, h3, hk3⟩, fun v H3 hv Y bY => ?_⟩
    have YK : C.K = Y.K := by obtain ⟨_, _, _, _, _, rfl⟩ := bY.is; exact hK
    obtain ⟨F3, h3⟩ := g2 v H3 hv
    have h3' := like (σp := [some v, some (.ref D)]) (ep := [.st none α Sa xs[i], .st none (List β) (ls Sb) acc]) rfl h3
    have lenp : ((some (.ref D) : Option V) :: (σx ++ σs)).length = ((.st none (List β) (ls Sb) acc : Slot) :: (ex ++ es)).length := by simp [hl, hy.len]
    refine hg Y bY t C F3 H3 (some (.ref D) :: (σx ++ σs)) (.st none (List β) (ls Sb) acc :: (ex ++ es)) (wipe σ (own.map (·.2))) v xs[i] _ YK lenp (by simpa [List.append_assoc] using h3') fun σ4 e4 h4 => ?_
    have hw : wipe σ4 (own.map (·.2)) = wipe (wipe σ (own.map (·.2))) (own.map (·.2)) := e4.wipe
    have hww : wipe (wipe σ (own.map (·.2))) (own.map (·.2)) = wipe σ (own.map (·.2)) := by
      apply List.ext_getElem?
      intro j
      rw [wipe_get, wipe_length, wipe_get]
      by_cases m : j ∈ own.map (·.2)
      · rw [if_pos m, if_pos m]
      · rw [if_neg m, if_neg m]
    have hl4 : σ4.length = σ.length := by rw [e4.1, wipe_length]
    refine ⟨hw.trans hww, fun Y bY => ?_⟩
    have YK : C.K = Y.K := by obtain ⟨_, _, _, _, _, rfl⟩ := bY.is; exact hK
    refine ht Y bY t xs[i] C F3 H3 (some (.ref D) :: (σx ++ σs)) (.st none (List β) (ls Sb) acc :: (ex ++ es)) σ4 _ ω _ YK lenp h4 hk2 fun bb p1 F5 H5 hk5 h5 => ?_
    cases bb with
    | false =>
      rw [if_neg Bool.false_ne_true] at hk5 ⊢
      refine ⟨acc, tf t xs[i] p1, F5, ?_, hk5⟩
      have h6 := ER.subF (σs := some (.ref D) :: (σx ++ σs)) h5 (hf t xs[i] p1)
      exact unlike (σp := [some (.ref D)]) (ep := [.st none (List β) (ls Sb) acc]) rfl hl4 (hw.trans hww) (by simpa [List.append_assoc] using h6)
    | true =>
      rw [if_pos rfl] at hk5 ⊢
      intro Y bY
      have YK : C.K = Y.K := by obtain ⟨_, _, _, _, _, rfl⟩ := bY.is; exact hK
      refine he Y bY t xs[i] p1 C F5 H5 (some (.ref D) :: (σx ++ σs)) (.st none (List β) (ls Sb) acc :: (ex ++ es)) σ4 _ ω _ YK lenp h5 hk5 fun y p2 u F6 H6 hk6 h6 => ?_
      have h7 : ER C F6 H6 (some u :: some (.ref D) :: (σx ++ (σs ++ σ4))) (.st none β Sb y :: .st none (List β) (ls Sb) acc :: (ex ++ (es ++ eE t xs[i] p1 p2))) := by simpa [List.append_assoc] using h6
      obtain ⟨hc, hk6⟩ := ck_some hk6
      obtain ⟨v', fp', v0, fq, e2, e3, r1, r2, nd, ow, fin⟩ := h7.absorb (i := 0) (w := none) (τ := List β) (S := ls Sb) (x := acc) rfl
      simp at e2 e3; subst e2; subst e3
      obtain ⟨q1, vs, fps, e4', hq, ra, rfl⟩ := r1
      cases e4'
      have hlen := ra.length
      have hc' := of_decide_eq_true hc
      refine ⟨vs, hq, by rw [SZ_eq]; omega, acc ++ [y], tn t xs[i] p1 p2, F6, ?_, hk6⟩
      have nm : D ∉ fps ++ fq := by
        have : (D :: (fps ++ fq)).Nodup := by simpa using nd
        exact (List.nodup_cons.mp this).1
      have fin' := fin (List β) (ls Sb) (acc ++ [y]) (upd H6 D (.lst (vs ++ [u]))) (D :: (fps ++ fq)) (fun a na _ => upd_ne fun z => na (by rw [z]; simp)) (fun a m => by
        by_cases z : a = D
        · subst z; rw [upd_same]; exact fun z => by cases z
        · rw [upd_ne z]; exact m) ⟨D, vs ++ [u], fps ++ fq, rfl, upd_same, RelAll.imp (fun fr' v' x' s q => Sb.frame (fun a m => upd_ne fun z => nm (z ▸ s a m)) q) (ra.app r2), rfl⟩ (by simpa using nd) (fun a m => by
        refine ⟨?_, .inl (by simpa using m)⟩
        by_cases z : a = D
        · subst z; rw [upd_same]; exact fun z => by cases z
        · rw [upd_ne z]; exact (ow a (by simpa using m)).2.2)
      have h8 : ER C F6 (upd H6 D (.lst (vs ++ [u]))) ((some (.ref D) :: (σx ++ σs)) ++ σ4) ((.st none (List β) (ls Sb) (acc ++ [y]) :: (ex ++ es)) ++ eE t xs[i] p1 p2) := by simpa [List.append_assoc] using fin'
      have h9 := h8.subF (hn t xs[i] p1 p2)
      exact unlike (σp := [some (.ref D)]) (ep := [.st none (List β) (ls Sb) (acc ++ [y])]) rfl hl4 (hw.trans hww) (by simpa [List.append_assoc] using h9)
  · have e : i = xs.length := by omega
    subst e
    refine .inl ⟨y2 (by simp), q acc t (.ref D) F2 H2 (by simpa [compO] using hk2) ?_⟩
    have h3 : ER C F2 H2 (σx ++ some (.ref D) :: (σs ++ σ)) (ex ++ .st none (List β) (ls Sb) acc :: (es ++ envT t)) := ER.unrot h2 hy.len
    exact h3.popN hy.len
end
end Z

set_option Elab.async false
set_option linter.all false
set_option maxRecDepth 100000
namespace Z
open PySem PySem.Spec PyProof.Rows L2

section
variable {X : Cx} {Ω : Type} {env : Env} {nm : Str} {pos spos np : Pos} {a b c e elt tg iter : Expr} {ifs : List Expr} {P P1 P2 T : Type} {τ τ1 τ2 α β : Type} {S : Stor τ} {Sa : Stor α} {Sb : Stor β} {E : Enc τ} {e' : P → Env} {scope : Scope} {own : List (Str × Nat)} {ix : List Nat}
/-- [elt for tg in iter if ..] -/
theorem lx_lc {envT : T → Env} {envX : T → α → Env} {eT : T → α → P1 → Env} {eE : T → α → P1 → P2 → Env} {f : (List α → P → Option Ω) → Option Ω} {ft : T → α → (Bool → P1 → Option Ω) → Option Ω} {fe : T → α → P1 → (β → P2 → Option Ω) → Option Ω}
    (hc : X.calm = true) (hN : X.N.Nodup) (ok : BlkOk X.N X.env.scope scope own)
    (hi : LI X env tg iter Sa e' f) (s0 : P → T) (h0 : ∀ p, Sub (e' p) (envT (s0 p))) (hu : ∀ (t : T) (i : Nat) (s : Slot), i ∈ own.map (·.2) → (envT t)[i]? = some s → s = Slot.un)
    (hg : ∀ (s : Shared) (H : Hp) (C : Addr) (cl : List (Str × Addr)) (fp : List Addr) t, LG (X.blk s H scope (compEnvC scope cl C X.env) fp) (own.map (·.2)) (envT t) tg Sa (envX t)) (ht : ∀ (s : Shared) (H : Hp) (C : Addr) (cl : List (Str × Addr)) (fp : List Addr) t x, LTl (X.blk s H scope (compEnvC scope cl C X.env) fp) (envX t x) ifs (eT t x) (ft t x)) (he : ∀ (s : Shared) (H : Hp) (C : Addr) (cl : List (Str × Addr)) (fp : List Addr) t x p, LX (X.blk s H scope (compEnvC scope cl C X.env) fp) (eT t x p) elt Sb (eE t x p) (fe t x p))
    (tn : T → α → P1 → P2 → T) (hn : ∀ t x p q, Sub (eE t x p q) (envT (tn t x p q))) (tf : T → α → P1 → T) (hf : ∀ t x p, Sub (eT t x p) (envT (tf t x p)))
    (hs : ∀ x, foldedSetIterable iter X.env x = pure x := by intro _; rfl) :
    LX X env (.ListComp elt [⟨tg, iter, ifs, 0⟩] scope pos) (ls Sb) envT (fun k => f fun xs p => compO xs (s0 p) (fun x t kc => ft t x fun b p1 => if b = true then fe t x p1 fun y p2 => kc (some y) (tn t x p1 p2) else kc none (tf t x p1)) [] k) :=
  fun C F H σs es σ k ω Q hK hl h hk q => tE.of X (pe_lc hc hN (piC X) ok (fun s H C cl fp => ⟨fun pins s' σ H' v u Q I r h => h _ ⟨s, H, C, cl, fp, rfl⟩ pins s' u I r⟩) (fun s H C cl fp => ⟨fun pins s' σ H' Q I h => h _ ⟨s, H, C, cl, fp, rfl⟩ pins s' I⟩) (fun s H C cl fp => ⟨fun pins s' σ H' Q I h => h _ ⟨s, H, C, cl, fp, rfl⟩ pins s' I⟩) hs)
    (lc_run hi s0 h0 hu (fun Y bY => by obtain ⟨s, H, C, cl, fp, rfl⟩ := bY.is; exact hg s H C cl fp) (fun Y bY => by obtain ⟨s, H, C, cl, fp, rfl⟩ := bY.is; exact ht s H C cl fp) (fun Y bY => by obtain ⟨s, H, C, cl, fp, rfl⟩ := bY.is; exact he s H C cl fp) tn hn tf hf hK hl h hk q)
/-- y = [..], y a local of the def, on one line -/
theorem lb_setLc {R I J : Type} {SR : Stor R} {envR : I → Env} {kr : R → I → Option Ω} {bk ct : Lp Ω} {rest : List Stmt} {envJ : J → Env} {fr : List β → T → (J → Option Ω) → Option Ω} {py : Pos}
    {envT : T → Env} {envX : T → α → Env} {eT : T → α → P1 → Env} {eE : T → α → P1 → P2 → Env} {f : (List α → P → Option Ω) → Option Ω} {ft : T → α → (Bool → P1 → Option Ω) → Option Ω} {fe : T → α → P1 → (β → P2 → Option Ω) → Option Ω}
    (hc : X.calm = true) (hN : X.N.Nodup) (ok : BlkOk X.N X.env.scope scope own) (i : Nat)
    (hi : LI X env tg iter Sa e' f) (s0 : P → T) (h0 : ∀ p, Sub (e' p) (envT (s0 p))) (hu : ∀ (t : T) (i : Nat) (s : Slot), i ∈ own.map (·.2) → (envT t)[i]? = some s → s = Slot.un)
    (hg : ∀ (s : Shared) (H : Hp) (C : Addr) (cl : List (Str × Addr)) (fp : List Addr) t, LG (X.blk s H scope (compEnvC scope cl C X.env) fp) (own.map (·.2)) (envT t) tg Sa (envX t)) (ht : ∀ (s : Shared) (H : Hp) (C : Addr) (cl : List (Str × Addr)) (fp : List Addr) t x, LTl (X.blk s H scope (compEnvC scope cl C X.env) fp) (envX t x) ifs (eT t x) (ft t x)) (he : ∀ (s : Shared) (H : Hp) (C : Addr) (cl : List (Str × Addr)) (fp : List Addr) t x p, LX (X.blk s H scope (compEnvC scope cl C X.env) fp) (eT t x p) elt Sb (eE t x p) (fe t x p))
    (tn : T → α → P1 → P2 → T) (hn : ∀ t x p q, Sub (eE t x p q) (envT (tn t x p q))) (tf : T → α → P1 → T) (hf : ∀ t x p, Sub (eT t x p) (envT (tf t x p)))
    (hr : ∀ ys t, LB X SR envR kr bk ct ((envT t).set i (.st none (List β) (ls Sb) ys)) rest envJ (fr ys t)) (hsw : swapsWith (.ListComp elt [⟨tg, iter, ifs, 0⟩] scope pos) (some (.Name nm py)) spos.line X.env = pure true) (hlt : ∀ t, i < (envT t).length := by exact (fun _ => Nat.lt_of_sub_eq_succ rfl)) (hy : X.N[i]? = some nm := by rfl) (hyl : X.env.scope.names.lookup nm = some .local := by rfl)
    (hs : ∀ x, foldedSetIterable iter X.env x = pure x := by intro _; rfl) :
    LB X SR envR kr bk ct env (.Assign [.Name nm py] (.ListComp elt [⟨tg, iter, ifs, 0⟩] scope pos) spos :: rest) envJ
      (fun kn => f fun xs p => compO xs (s0 p) (fun x t kc => ft t x fun b p1 => if b = true then fe t x p1 fun y p2 => kc (some y) (tn t x p1 p2) else kc none (tf t x p1)) [] fun ys t => fr ys t kn) :=
  fun C F H σs es σ kn ω D hK hl h hk qn qb qc qr => tSs.of X (pss_cons (ps_setLc (g := fun v σ H Q => ∀ Y, Blk X scope Y → tG Y tg v σ H Q) (tt := fun σ H Q => ∀ Y, Blk X scope Y → tTl Y ifs σ H Q) (te := fun σ H Q => ∀ Y, Blk X scope Y → tE Y elt σ H Q) hc hN hy hyl hsw (piC X) ok (fun s H C cl fp => ⟨fun pins s' σ H' v u Q I r h => h _ ⟨s, H, C, cl, fp, rfl⟩ pins s' u I r⟩) (fun s H C cl fp => ⟨fun pins s' σ H' Q I h => h _ ⟨s, H, C, cl, fp, rfl⟩ pins s' I⟩) (fun s H C cl fp => ⟨fun pins s' σ H' Q I h => h _ ⟨s, H, C, cl, fp, rfl⟩ pins s' I⟩) hs) (pssC X))
    (lc_run hi s0 h0 hu (fun Y bY => by obtain ⟨s, H, C, cl, fp, rfl⟩ := bY.is; exact hg s H C cl fp) (fun Y bY => by obtain ⟨s, H, C, cl, fp, rfl⟩ := bY.is; exact ht s H C cl fp) (fun Y bY => by obtain ⟨s, H, C, cl, fp, rfl⟩ := bY.is; exact he s H C cl fp) tn hn tf hf hK hl h hk fun ys t v F' H' hk' h' => hr ys t C F' H' σs es (σ.set i (some v)) kn ω D hK hl (h'.asg hl (hlt t)) hk' qn qb qc qr)

/-! ### built-ins over one thing -/
/-- f(e): what comes back is told by data -/
theorem lx_b1 {G : Env → Prop} {id : String} {r : List V → Hp → VK → Prop} {E : Enc β} {g : τ → Option β} {f : (τ → P → Option Ω) → Option Ω} (hcall : CallR X (.builtin id) r) (hm : X.mg nm = none) (hv : bootBuiltins nm = some (.builtin id)) (ha : LO X G env a S e' f) (hG : ∀ p, G (e' p))
    (hr : ∀ K F H fp v x y (Q : VK), K = X.K → Same F H → g x = some y → S.rel K F H fp v x → (∀ u, Rep K F u (E.enc y) → Q u H) → r [v] H Q)
    (hg : Gl X nm := by rfl) (hn : nm ≠ "__name__" := by decide) (hdb : (nm == ("__debug__" : Str)) = false := by decide) (he : starEach (a :: []) X.env = (false, eval a X.env) :: starEach [] X.env := by rfl) (hpl : (backTo pos (starEach [] X.env)).any (·.1) = false := by rfl) :
    LX X env (.Call (.Name nm np) [a] [] pos) (it E) e' (fun k => f fun x p => (g x).bind fun y => k y p) :=
  fun C F H σs es σ k ω Q hK hl h hk q => tE.of X (pe_callB hcall hg hm hv (pa_cons (peC X) pa_nil he) hn hdb he hpl) (lo_run ha hG hK hl h hk fun x p v F' H' fp hk' h' rr => by
    obtain ⟨y, hy, hk'⟩ := bind_some hk'
    exact hr C.K F' H' fp v x y Q hK h'.sF hy rr fun u hu => q y p u F' H' hk' (h'.pushSh hu))
/-- .. that always comes back -/
theorem lx_b1t {G : Env → Prop} {id : String} {r : List V → Hp → VK → Prop} {E : Enc β} {g : τ → β} {f : (τ → P → Option Ω) → Option Ω} (hcall : CallR X (.builtin id) r) (hm : X.mg nm = none) (hv : bootBuiltins nm = some (.builtin id)) (ha : LO X G env a S e' f) (hG : ∀ p, G (e' p))
    (hr : ∀ K F H fp v x (Q : VK), K = X.K → Same F H → S.rel K F H fp v x → (∀ u, Rep K F u (E.enc (g x)) → Q u H) → r [v] H Q)
    (hg : Gl X nm := by rfl) (hn : nm ≠ "__name__" := by decide) (hdb : (nm == ("__debug__" : Str)) = false := by decide) (he : starEach (a :: []) X.env = (false, eval a X.env) :: starEach [] X.env := by rfl) (hpl : (backTo pos (starEach [] X.env)).any (·.1) = false := by rfl) :
    LX X env (.Call (.Name nm np) [a] [] pos) (it E) e' (fun k => f fun x p => k (g x) p) :=
  fun C F H σs es σ k ω Q hK hl h hk q => tE.of X (pe_callB hcall hg hm hv (pa_cons (peC X) pa_nil he) hn hdb he hpl) (lo_run ha hG hK hl h hk fun x p v F' H' fp hk' h' rr =>
    hr C.K F' H' fp v x Q hK h'.sF rr fun u hu => q (g x) p u F' H' hk' (h'.pushSh hu))
/-- .. of a type -/
theorem lx_y1t {G : Env → Prop} {Ty : String} {r : List V → Hp → VK → Prop} {E : Enc β} {g : τ → β} {f : (τ → P → Option Ω) → Option Ω} (hcall : CallR X (.type Ty) r) (hm : X.mg nm = none) (hv : bootBuiltins nm = some (.type Ty)) (ha : LO X G env a S e' f) (hG : ∀ p, G (e' p))
    (hr : ∀ K F H fp v x (Q : VK), K = X.K → Same F H → S.rel K F H fp v x → (∀ u, Rep K F u (E.enc (g x)) → Q u H) → r [v] H Q)
    (hg : Gl X nm := by rfl) (hn : nm ≠ "__name__" := by decide) (hdb : (nm == ("__debug__" : Str)) = false := by decide) (he : starEach (a :: []) X.env = (false, eval a X.env) :: starEach [] X.env := by rfl) (hpl : (backTo pos (starEach [] X.env)).any (·.1) = false := by rfl) :
    LX X env (.Call (.Name nm np) [a] [] pos) (it E) e' (fun k => f fun x p => k (g x) p) :=
  fun C F H σs es σ k ω Q hK hl h hk q => tE.of X (pe_callTy hcall hg hm hv (pa_cons (peC X) pa_nil he) hn hdb he hpl) (lo_run ha hG hK hl h hk fun x p v F' H' fp hk' h' rr =>
    hr C.K F' H' fp v x Q hK h'.sF rr fun u hu => q (g x) p u F' H' hk' (h'.pushSh hu))
/-- .. that makes a new list of shared things -/
theorem lx_b1n {G : Env → Prop} {id : String} {r : List V → Hp → VK → Prop} {E : Enc β} {g : τ → Option (List β)} {f : (τ → P → Option Ω) → Option Ω} (hcall : CallR X (.builtin id) r) (hm : X.mg nm = none) (hv : bootBuiltins nm = some (.builtin id)) (ha : LO X G env a S e' f) (hG : ∀ p, G (e' p))
    (hr : ∀ K F H fp v x y (Q : VK), K = X.K → Same F H → g x = some y → S.rel K F H fp v x → (∀ t vs, H t = none → RepAll K F vs (y.map E.enc) → Q (.ref t) (upd H t (.lst vs))) → r [v] H Q)
    (hg : Gl X nm := by rfl) (hn : nm ≠ "__name__" := by decide) (hdb : (nm == ("__debug__" : Str)) = false := by decide) (he : starEach (a :: []) X.env = (false, eval a X.env) :: starEach [] X.env := by rfl) (hpl : (backTo pos (starEach [] X.env)).any (·.1) = false := by rfl) :
    LX X env (.Call (.Name nm np) [a] [] pos) (ls (it E)) e' (fun k => f fun x p => (g x).bind fun y => k y p) :=
  fun C F H σs es σ k ω Q hK hl h hk q => tE.of X (pe_callB hcall hg hm hv (pa_cons (peC X) pa_nil he) hn hdb he hpl) (lo_run ha hG hK hl h hk fun x p v F' H' fp hk' h' rr => by
    obtain ⟨y, hy, hk'⟩ := bind_some hk'
    exact hr C.K F' H' fp v x y Q hK h'.sF hy rr fun t vs nt hu => q y p (.ref t) F' _ hk' (h'.newOw nt ⟨t, vs, [], rfl, upd_same, hu.zero, rfl⟩))
theorem lx_y1n {G : Env → Prop} {Ty : String} {r : List V → Hp → VK → Prop} {E : Enc β} {g : τ → List β} {f : (τ → P → Option Ω) → Option Ω} (hcall : CallR X (.type Ty) r) (hm : X.mg nm = none) (hv : bootBuiltins nm = some (.type Ty)) (ha : LO X G env a S e' f) (hG : ∀ p, G (e' p))
    (hr : ∀ K F H fp v x (Q : VK), K = X.K → Same F H → S.rel K F H fp v x → (∀ t vs, H t = none → RepAll K F vs ((g x).map E.enc) → Q (.ref t) (upd H t (.lst vs))) → r [v] H Q)
    (hg : Gl X nm := by rfl) (hn : nm ≠ "__name__" := by decide) (hdb : (nm == ("__debug__" : Str)) = false := by decide) (he : starEach (a :: []) X.env = (false, eval a X.env) :: starEach [] X.env := by rfl) (hpl : (backTo pos (starEach [] X.env)).any (·.1) = false := by rfl) :
    LX X env (.Call (.Name nm np) [a] [] pos) (ls (it E)) e' (fun k => f fun x p => k (g x) p) :=
  fun C F H σs es σ k ω Q hK hl h hk q => tE.of X (pe_callTy hcall hg hm hv (pa_cons (peC X) pa_nil he) hn hdb he hpl) (lo_run ha hG hK hl h hk fun x p v F' H' fp hk' h' rr =>
    hr C.K F' H' fp v x Q hK h'.sF rr fun t vs nt hu => q (g x) p (.ref t) F' _ hk' (h'.newOw nt ⟨t, vs, [], rfl, upd_same, hu.zero, rfl⟩))
/-- f(a, b) of two ints -/
theorem lx_b2I {id : String} {r : List V → Hp → VK → Prop} {g : Int → Int → Int} {e1 : P1 → Env} {e2 : P1 → P2 → Env} {fa : (Int → P1 → Option Ω) → Option Ω} {fb : P1 → (Int → P2 → Option Ω) → Option Ω} (hcall : CallR X (.builtin id) r) (hr : ∀ i j H (Q : VK), Q (.int (g i j)) H → r [.int i, .int j] H Q) (hm : X.mg nm = none) (hv : bootBuiltins nm = some (.builtin id))
    (ha : LX X env a (it eI) e1 fa) (hb : ∀ p1, LX X (e1 p1) b (it eI) (e2 p1) (fb p1)) (hg : Gl X nm := by rfl) (hn : nm ≠ "__name__" := by decide) (hdb : (nm == ("__debug__" : Str)) = false := by decide)
    (he : starEach [a, b] X.env = (false, eval a X.env) :: starEach [b] X.env := by rfl) (he2 : starEach [b] X.env = (false, eval b X.env) :: starEach [] X.env := by rfl) (hpl : (backTo pos (starEach [b] X.env)).any (·.1) = false := by rfl) :
    LX X env (.Call (.Name nm np) [a, b] [] pos) (it eI) (fun p : P1 × P2 => e2 p.1 p.2) (fun k => fa fun x p1 => fb p1 fun y p2 => k (g x y) (p1, p2)) :=
  fun C F H σs es σ k ω Q hK hl h hk q => tE.of X (pe_callB hcall hg hm hv (pa_cons (peC X) (pa_cons (peC X) pa_nil he2) he) hn hdb he hpl) (op2_run (lo_of ha) (fun p1 => lo_of (hb p1)) (fun _ _ => trivial) (fun _ _ => trivial) hK hl h hk
    fun x p1 y p2 v u F' H' fp fq hk' h' r1 r2 => by
      obtain ⟨_, r1⟩ := r1
      obtain ⟨_, r2⟩ := r2
      cases r1; cases r2
      exact hr x y H' Q (q _ (p1, p2) _ F' H' hk' (h'.pushSh (.int _))))
section
variable {G : Env → Prop} {fI : (Int → P → Option Ω) → Option Ω} {f : (τ → P → Option Ω) → Option Ω} {g : τ → List α} {Ea : Enc α}
theorem lx_abs (hm : X.mg "abs" = none) (ha : LX X env a (it eI) e' fI) (hg : Gl X "abs" := by rfl) (he : starEach (a :: []) X.env = (false, eval a X.env) :: starEach [] X.env := by rfl) (hpl : (backTo pos (starEach [] X.env)).any (·.1) = false := by rfl) :
    LX X env (.Call (.Name "abs" np) [a] [] pos) (it eI) e' (fun k => fI fun x p => k (if x < 0 then -x else x) p) :=
  lx_b1t (E := eI) (g := fun x : Int => if x < 0 then -x else x) call_abs hm boot_abs (lo_of ha) (fun _ => trivial) (fun K F H fp v x Q _ _ r q => by obtain ⟨_, r⟩ := r; cases r; exact ⟨x, rfl, q _ (.int _)⟩) hg (by decide) (by decide) he hpl
theorem lx_int1 (hm : X.mg "int" = none) (ha : LX X env a (it eI) e' fI) (hg : Gl X "int" := by rfl) (he : starEach (a :: []) X.env = (false, eval a X.env) :: starEach [] X.env := by rfl) (hpl : (backTo pos (starEach [] X.env)).any (·.1) = false := by rfl) :
    LX X env (.Call (.Name "int" np) [a] [] pos) (it eI) e' (fun k => fI fun x p => k x p) :=
  lx_y1t (E := eI) (g := fun x : Int => x) call_int1 hm PyProof.Rows.boot_int (lo_of ha) (fun _ => trivial) (fun K F H fp v x Q _ _ r q => by obtain ⟨_, r⟩ := r; cases r; exact .inl ⟨x, rfl, q _ (.int _)⟩) hg (by decide) (by decide) he hpl
theorem lx_intB {fB : (Bool → P → Option Ω) → Option Ω} (hm : X.mg "int" = none) (ha : LX X env a (it eB) e' fB) (hg : Gl X "int" := by rfl) (he : starEach (a :: []) X.env = (false, eval a X.env) :: starEach [] X.env := by rfl) (hpl : (backTo pos (starEach [] X.env)).any (·.1) = false := by rfl) :
    LX X env (.Call (.Name "int" np) [a] [] pos) (it eI) e' (fun k => fB fun x p => k (if x = true then 1 else 0) p) :=
  lx_y1t (E := eI) (g := fun x : Bool => if x = true then (1 : Int) else 0) call_int1 hm PyProof.Rows.boot_int (lo_of ha) (fun _ => trivial) (fun K F H fp v x Q _ _ r q => by obtain ⟨_, r⟩ := r; cases r; exact .inr ⟨x, rfl, q _ (.int _)⟩) hg (by decide) (by decide) he hpl
theorem lx_max2 {e1 : P1 → Env} {e2 : P1 → P2 → Env} {fa : (Int → P1 → Option Ω) → Option Ω} {fb : P1 → (Int → P2 → Option Ω) → Option Ω} (hc : X.calm = true) (hm : X.mg "max" = none) (ha : LX X env a (it eI) e1 fa) (hb : ∀ p1, LX X (e1 p1) b (it eI) (e2 p1) (fb p1)) (hg : Gl X "max" := by rfl)
    (he : starEach [a, b] X.env = (false, eval a X.env) :: starEach [b] X.env := by rfl) (he2 : starEach [b] X.env = (false, eval b X.env) :: starEach [] X.env := by rfl) (hpl : (backTo pos (starEach [b] X.env)).any (·.1) = false := by rfl) :
    LX X env (.Call (.Name "max" np) [a, b] [] pos) (it eI) (fun p : P1 × P2 => e2 p.1 p.2) (fun k => fa fun x p1 => fb p1 fun y p2 => k (max x y) (p1, p2)) :=
  lx_b2I (call_max2 hc) (fun i j H Q q => ⟨i, j, rfl, by rw [show (if j > i then j else i) = max i j by omega]; exact q⟩) hm boot_max ha hb hg (by decide) (by decide) he he2 hpl
theorem lx_min2 {e1 : P1 → Env} {e2 : P1 → P2 → Env} {fa : (Int → P1 → Option Ω) → Option Ω} {fb : P1 → (Int → P2 → Option Ω) → Option Ω} (hc : X.calm = true) (hm : X.mg "min" = none) (ha : LX X env a (it eI) e1 fa) (hb : ∀ p1, LX X (e1 p1) b (it eI) (e2 p1) (fb p1)) (hg : Gl X "min" := by rfl)
    (he : starEach [a, b] X.env = (false, eval a X.env) :: starEach [b] X.env := by rfl) (he2 : starEach [b] X.env = (false, eval b X.env) :: starEach [] X.env := by rfl) (hpl : (backTo pos (starEach [b] X.env)).any (·.1) = false := by rfl) :
    LX X env (.Call (.Name "min" np) [a, b] [] pos) (it eI) (fun p : P1 × P2 => e2 p.1 p.2) (fun k => fa fun x p1 => fb p1 fun y p2 => k (min x y) (p1, p2)) :=
  lx_b2I (call_min2 hc) (fun i j H Q q => ⟨i, j, rfl, by rw [show (if j < i then j else i) = min i j by omega]; exact q⟩) hm boot_min ha hb hg (by decide) (by decide) he he2 hpl
theorem lx_len (hv : LVw S (it Ea) g) (hm : X.mg "len" = none) (ha : LO X G env a S e' f) (hG : ∀ p, G (e' p)) (hg : Gl X "len" := by rfl) (he : starEach (a :: []) X.env = (false, eval a X.env) :: starEach [] X.env := by rfl) (hpl : (backTo pos (starEach [] X.env)).any (·.1) = false := by rfl) :
    LX X env (.Call (.Name "len" np) [a] [] pos) (it eI) e' (fun k => f fun x p => k ((g x).length : Int) p) :=
  lx_b1t (E := eI) (g := fun x : τ => ((g x).length : Int)) call_len_seq hm PySem.boot_len ha hG (fun K F H fp v x Q hK s r q => by
    obtain ⟨p, vs, fps, rfl, h1, h2⟩ := hv.view s r
    have := h2.length
    exact ⟨p, vs, rfl, .inl (by rw [← hK]; exact h1), by rw [this]; exact q _ (.int _)⟩) hg (by decide) (by decide) he hpl
theorem lx_lenO {Sx : Stor α} (hv : LVw S Sx g) (hm : X.mg "len" = none) (ha : LO X G env a S e' f) (hG : ∀ p, G (e' p)) (hg : Gl X "len" := by rfl) (he : starEach (a :: []) X.env = (false, eval a X.env) :: starEach [] X.env := by rfl) (hpl : (backTo pos (starEach [] X.env)).any (·.1) = false := by rfl) :
    LX X env (.Call (.Name "len" np) [a] [] pos) (it eI) e' (fun k => f fun x p => k ((g x).length : Int) p) :=
  lx_b1t (E := eI) (g := fun x : τ => ((g x).length : Int)) call_len_seq hm PySem.boot_len ha hG (fun K F H fp v x Q hK s r q => by
    obtain ⟨p, vs, fps, rfl, h1, h2⟩ := hv.view s r
    have := h2.length
    exact ⟨p, vs, rfl, .inl (by rw [← hK]; exact h1), by rw [this]; exact q _ (.int _)⟩) hg (by decide) (by decide) he hpl
theorem lx_lenV (hv : TVw S (it Ea) g) (hm : X.mg "len" = none) (ha : LO X G env a S e' f) (hG : ∀ p, G (e' p)) (hg : Gl X "len" := by rfl) (he : starEach (a :: []) X.env = (false, eval a X.env) :: starEach [] X.env := by rfl) (hpl : (backTo pos (starEach [] X.env)).any (·.1) = false := by rfl) :
    LX X env (.Call (.Name "len" np) [a] [] pos) (it eI) e' (fun k => f fun x p => k ((g x).length : Int) p) :=
  lx_b1t (E := eI) (g := fun x : τ => ((g x).length : Int)) call_len_seq hm PySem.boot_len ha hG (fun K F H fp v x Q hK s r q => by
    obtain ⟨p, vs, fps, rfl, h1, h2⟩ := hv.view s r
    have := h2.length
    exact ⟨p, vs, rfl, .inr (by rw [← hK]; exact h1), by rw [this]; exact q _ (.int _)⟩) hg (by decide) (by decide) he hpl
theorem RepAll.ints {K : Fg} {F : Hp} : ∀ {vs : List V} {ns : List Int}, RepAll K F vs (ns.map eI.enc) → vs = ns.map V.int
  | [], [], _ => rfl
  | [], _ :: _, h => by cases h
  | _ :: _, [], h => by cases h
  | v :: vs, n :: ns, h => by
    cases h with
    | cons h1 h2 =>
      have h1' : Rep K F v (.int n) := h1
      cases h1'
      rw [RepAll.ints h2]; rfl
theorem RepAll.ofInts {K : Fg} {F : Hp} : ∀ (ns : List Int), RepAll K F (ns.map V.int) (ns.map eI.enc)
  | [] => .nil
  | n :: ns => .cons (.int n) (RepAll.ofInts ns)
theorem lx_sum {g : τ → List Int} (hc : X.calm = true) (hv : LVw S (it eI) g) (hm : X.mg "sum" = none) (ha : LO X G env a S e' f) (hG : ∀ p, G (e' p)) (hg : Gl X "sum" := by rfl) (he : starEach (a :: []) X.env = (false, eval a X.env) :: starEach [] X.env := by rfl) (hpl : (backTo pos (starEach [] X.env)).any (·.1) = false := by rfl) :
    LX X env (.Call (.Name "sum" np) [a] [] pos) (it eI) e' (fun k => f fun x p => k (g x).sum p) :=
  lx_b1t (E := eI) (g := fun x : τ => (g x).sum) (cr_sum hc) hm boot_sum ha hG (fun K F H fp v x Q hK s r q => by
    obtain ⟨p, vs, fps, rfl, h1, h2⟩ := hv.view s r
    have := h2.zero.2.ints
    subst this
    exact ⟨p, g x, rfl, by rw [← hK]; exact h1, q _ (.int _)⟩) hg (by decide) (by decide) he hpl
/-- the least, the greatest of a list of ints -/
def minI : List Int → Option Int
  | [] => none
  | x :: xs => some (xs.foldl min x)
def maxI : List Int → Option Int
  | [] => none
  | x :: xs => some (xs.foldl max x)
theorem foldl_min_le : ∀ (xs : List Int) (x : Int), xs.foldl min x ≤ x ∧ ∀ y ∈ xs, xs.foldl min x ≤ y
  | [], x => ⟨Int.le_refl x, fun _ m => nomatch m⟩
  | z :: xs, x => by
    obtain ⟨h1, h2⟩ := foldl_min_le xs (min x z)
    rw [List.foldl_cons]
    refine ⟨by omega, fun y m => ?_⟩
    rcases List.mem_cons.mp m with rfl | m
    · omega
    · exact h2 y m
theorem foldl_min_mem : ∀ (xs : List Int) (x : Int), xs.foldl min x = x ∨ xs.foldl min x ∈ xs
  | [], x => .inl rfl
  | z :: xs, x => by
    rw [List.foldl_cons]
    rcases foldl_min_mem xs (min x z) with h | h
    · by_cases c : x ≤ z
      · left; rw [h]; omega
      · right; rw [h, show min x z = z by omega]; exact List.mem_cons_self
    · exact .inr (List.mem_cons_of_mem _ h)
theorem foldl_max_le : ∀ (xs : List Int) (x : Int), x ≤ xs.foldl max x ∧ ∀ y ∈ xs, y ≤ xs.foldl max x
  | [], x => ⟨Int.le_refl x, fun _ m => nomatch m⟩
  | z :: xs, x => by
    obtain ⟨h1, h2⟩ := foldl_max_le xs (max x z)
    rw [List.foldl_cons]
    refine ⟨by omega, fun y m => ?_⟩
    rcases List.mem_cons.mp m with rfl | m
    · omega
    · exact h2 y m
theorem foldl_max_mem : ∀ (xs : List Int) (x : Int), xs.foldl max x = x ∨ xs.foldl max x ∈ xs
  | [], x => .inl rfl
  | z :: xs, x => by
    rw [List.foldl_cons]
    rcases foldl_max_mem xs (max x z) with h | h
    · by_cases c : z ≤ x
      · left; rw [h]; omega
      · right; rw [h, show max x z = z by omega]; exact List.mem_cons_self
    · exact .inr (List.mem_cons_of_mem _ h)
theorem minI_is {ns : List Int} {y m : Int} (h : minI ns = some y) (hm : m ∈ ns) (hle : ∀ z ∈ ns, m ≤ z) : m = y := by
  cases ns with
  | nil => cases h
  | cons x xs =>
    cases h
    obtain ⟨h1, h2⟩ := foldl_min_le xs x
    have a1 : xs.foldl min x ≤ m := by
      rcases List.mem_cons.mp hm with rfl | q
      · exact h1
      · exact h2 m q
    have a2 : m ≤ xs.foldl min x := by
      rcases foldl_min_mem xs x with q | q
      · rw [q]; exact hle x List.mem_cons_self
      · exact hle _ (List.mem_cons_of_mem _ q)
    omega
theorem maxI_is {ns : List Int} {y m : Int} (h : maxI ns = some y) (hm : m ∈ ns) (hle : ∀ z ∈ ns, z ≤ m) : m = y := by
  cases ns with
  | nil => cases h
  | cons x xs =>
    cases h
    obtain ⟨h1, h2⟩ := foldl_max_le xs x
    have a1 : m ≤ xs.foldl max x := by
      rcases List.mem_cons.mp hm with rfl | q
      · exact h1
      · exact h2 m q
    have a2 : xs.foldl max x ≤ m := by
      rcases foldl_max_mem xs x with q | q
      · rw [q]; exact hle x List.mem_cons_self
      · exact hle _ (List.mem_cons_of_mem _ q)
    omega
theorem lx_minI {g : τ → List Int} (hc : X.calm = true) (hv : LVw S (it eI) g) (hm : X.mg "min" = none) (ha : LO X G env a S e' f) (hG : ∀ p, G (e' p)) (hg : Gl X "min" := by rfl) (he : starEach (a :: []) X.env = (false, eval a X.env) :: starEach [] X.env := by rfl) (hpl : (backTo pos (starEach [] X.env)).any (·.1) = false := by rfl) :
    LX X env (.Call (.Name "min" np) [a] [] pos) (it eI) e' (fun k => f fun x p => (minI (g x)).bind fun y => k y p) :=
  lx_b1 (E := eI) (g := fun x : τ => minI (g x)) (cr_min hc) hm boot_min ha hG (fun K F H fp v x y Q hK s hy r q => by
    obtain ⟨p, vs, fps, rfl, h1, h2⟩ := hv.view s r
    have := h2.zero.2.ints
    subst this
    refine ⟨p, g x, rfl, by rw [← hK]; exact h1, ?_, fun m hmm hle => ?_⟩
    · cases hgx : g x with
      | nil => rw [hgx] at hy; cases hy
      | cons z zs => simp
    · rw [minI_is hy hmm hle]; exact q _ (.int _)) hg (by decide) (by decide) he hpl
theorem lx_maxI {g : τ → List Int} (hc : X.calm = true) (hv : LVw S (it eI) g) (hm : X.mg "max" = none) (ha : LO X G env a S e' f) (hG : ∀ p, G (e' p)) (hg : Gl X "max" := by rfl) (he : starEach (a :: []) X.env = (false, eval a X.env) :: starEach [] X.env := by rfl) (hpl : (backTo pos (starEach [] X.env)).any (·.1) = false := by rfl) :
    LX X env (.Call (.Name "max" np) [a] [] pos) (it eI) e' (fun k => f fun x p => (maxI (g x)).bind fun y => k y p) :=
  lx_b1 (E := eI) (g := fun x : τ => maxI (g x)) (cr_max hc) hm boot_max ha hG (fun K F H fp v x y Q hK s hy r q => by
    obtain ⟨p, vs, fps, rfl, h1, h2⟩ := hv.view s r
    have := h2.zero.2.ints
    subst this
    refine ⟨p, g x, rfl, by rw [← hK]; exact h1, ?_, fun m hmm hle => ?_⟩
    · cases hgx : g x with
      | nil => rw [hgx] at hy; cases hy
      | cons z zs => simp
    · rw [maxI_is hy hmm hle]; exact q _ (.int _)) hg (by decide) (by decide) he hpl
/-- list(xs) -/
theorem lx_listof (hv : LVw S (it Ea) g) (hm : X.mg "list" = none) (ha : LO X G env a S e' f) (hG : ∀ p, G (e' p)) (hg : Gl X "list" := by rfl) (he : starEach (a :: []) X.env = (false, eval a X.env) :: starEach [] X.env := by rfl) (hpl : (backTo pos (starEach [] X.env)).any (·.1) = false := by rfl) :
    LX X env (.Call (.Name "list" np) [a] [] pos) (ls (it Ea)) e' (fun k => f fun x p => k (g x) p) :=
  lx_y1n (E := Ea) (g := g) call_list_of hm PyProof.Rows.boot_list ha hG (fun K F H fp v x Q hK s r q => by
    obtain ⟨p, vs, fps, rfl, h1, h2⟩ := hv.view s r
    exact ⟨p, vs, rfl, .inl (by rw [← hK]; exact h1), fun l hl => q l vs hl h2.zero.2⟩) hg (by decide) (by decide) he hpl
end
end
end Z

set_option Elab.async false
set_option linter.all false
set_option maxRecDepth 100000
namespace Z
open PySem PySem.Spec PyProof.Rows L2

/-! ### kinds of data: depth, equality, order -/
structure Dt {τ : Type} (E : Enc τ) (n : Nat) : Prop where
  lay : ∀ x, (E.enc x).canLay0 = true
  dep : ∀ x, (E.enc x).depth ≤ n
theorem Dt.mono {τ : Type} {E : Enc τ} {n m : Nat} (h : Dt E n) (l : n ≤ m) : Dt E m := ⟨h.lay, fun x => Nat.le_trans (h.dep x) l⟩
theorem canLayAll_of : ∀ {ds : List PyData}, (∀ d ∈ ds, d.canLay0 = true) → PyData.canLayAll0 ds = true
  | [], _ => rfl
  | d :: ds, h => by
    unfold PyData.canLayAll0
    rw [h d List.mem_cons_self, canLayAll_of fun e m => h e (List.mem_cons_of_mem _ m)]; rfl
theorem depthAll_of : ∀ {ds : List PyData} {n : Nat}, (∀ d ∈ ds, d.depth ≤ n) → PyData.depthAll ds ≤ n
  | [], n, _ => by simp [PyData.depthAll]
  | d :: ds, n, h => by
    unfold PyData.depthAll
    have h1 := h d List.mem_cons_self
    have h2 := depthAll_of (ds := ds) (n := n) fun e m => h e (List.mem_cons_of_mem _ m)
    omega
theorem dtI : Dt eI 0 := ⟨fun _ => rfl, fun _ => by simp [eI, PyData.depth]⟩
theorem dtB : Dt eB 0 := ⟨fun _ => rfl, fun _ => by simp [eB, PyData.depth]⟩
theorem dtN : Dt eN 0 := ⟨fun _ => rfl, fun _ => by simp [eN, PyData.depth]⟩
theorem dtL {τ : Type} {E : Enc τ} {n : Nat} (h : Dt E n) : Dt (eL E) (n + 1) := ⟨fun x => by
  show PyData.canLay0 (.list _) = true
  rw [PyData.canLay0]
  exact canLayAll_of fun d m => by obtain ⟨y, _, rfl⟩ := List.mem_map.mp m; exact h.lay y, fun x => by
  show PyData.depth (.list _) ≤ n + 1
  rw [PyData.depth]
  have := depthAll_of (ds := x.map E.enc) (n := n) fun d m => by obtain ⟨y, _, rfl⟩ := List.mem_map.mp m; exact h.dep y
  omega⟩
theorem dtV {τ : Type} {E : Enc τ} {n : Nat} (h : Dt E n) : Dt (eV E) (n + 1) := ⟨fun x => by
  show PyData.canLay0 (.tuple _) = true
  rw [PyData.canLay0]
  exact canLayAll_of fun d m => by obtain ⟨y, _, rfl⟩ := List.mem_map.mp m; exact h.lay y, fun x => by
  show PyData.depth (.tuple _) ≤ n + 1
  rw [PyData.depth]
  have := depthAll_of (ds := x.map E.enc) (n := n) fun d m => by obtain ⟨y, _, rfl⟩ := List.mem_map.mp m; exact h.dep y
  omega⟩
theorem dt_tup {τ : Type} {E : Enc τ} {n : Nat} {ds : τ → List PyData} (he : ∀ x, E.enc x = .tuple (ds x)) (h1 : ∀ x, ∀ d ∈ ds x, d.canLay0 = true) (h2 : ∀ x, ∀ d ∈ ds x, d.depth ≤ n) : Dt E (n + 1) := ⟨fun x => by
  rw [he, PyData.canLay0]; exact canLayAll_of (h1 x), fun x => by
  rw [he, PyData.depth]
  have := depthAll_of (h2 x)
  omega⟩
section
variable {α β γ δ : Type} {A : Enc α} {B : Enc β} {G : Enc γ} {D : Enc δ} {n : Nat}
theorem dtT2 (a : Dt A n) (b : Dt B n) : Dt (eT2 A B) (n + 1) := dt_tup (ds := fun p => [A.enc p.1, B.enc p.2]) (fun _ => rfl) (fun x d m => by simp at m; rcases m with rfl | rfl; exact a.lay _; exact b.lay _) (fun x d m => by simp at m; rcases m with rfl | rfl; exact a.dep _; exact b.dep _)
theorem dtT3 (a : Dt A n) (b : Dt B n) (g : Dt G n) : Dt (eT3 A B G) (n + 1) := dt_tup (ds := fun p => [A.enc p.1, B.enc p.2.1, G.enc p.2.2]) (fun _ => rfl) (fun x d m => by simp at m; rcases m with rfl | rfl | rfl; exact a.lay _; exact b.lay _; exact g.lay _) (fun x d m => by simp at m; rcases m with rfl | rfl | rfl; exact a.dep _; exact b.dep _; exact g.dep _)
theorem dtT4 (a : Dt A n) (b : Dt B n) (g : Dt G n) (d4 : Dt D n) : Dt (eT4 A B G D) (n + 1) := dt_tup (ds := fun p => [A.enc p.1, B.enc p.2.1, G.enc p.2.2.1, D.enc p.2.2.2]) (fun _ => rfl) (fun x d m => by simp at m; rcases m with rfl | rfl | rfl | rfl; exact a.lay _; exact b.lay _; exact g.lay _; exact d4.lay _) (fun x d m => by simp at m; rcases m with rfl | rfl | rfl | rfl; exact a.dep _; exact b.dep _; exact g.dep _; exact d4.dep _)
end
/-- == of this kind is equality -/
structure Ev {τ : Type} [DecidableEq τ] (E : Enc τ) : Prop where
  eq : ∀ x y, PyData.eqv (E.enc x) (E.enc y) = decide (x = y)
theorem evI : Ev eI := ⟨fun x y => by simp [eI, PyData.eqv, Bool.beq_eq_decide_eq]⟩
theorem evB : Ev eB := ⟨fun x y => by simp [eB, PyData.eqv, Bool.beq_eq_decide_eq]⟩
theorem evN : Ev eN := ⟨fun x y => by simp [eN, PyData.eqv]⟩
theorem evS : Ev eS := ⟨fun x y => by simp only [eS, PyData.eqv]; exact Bool.beq_eq_decide_eq x y⟩
theorem eqvAll_map {τ : Type} [DecidableEq τ] {E : Enc τ} (h : Ev E) : ∀ (xs ys : List τ), PyData.eqvAll (xs.map E.enc) (ys.map E.enc) = decide (xs = ys)
  | [], [] => by simp [PyData.eqvAll]
  | [], _ :: _ => by simp [PyData.eqvAll]
  | _ :: _, [] => by simp [PyData.eqvAll]
  | x :: xs, y :: ys => by
    simp only [List.map_cons, PyData.eqvAll, h.eq, eqvAll_map h xs ys, List.cons.injEq, Bool.decide_and]
theorem evL {τ : Type} [DecidableEq τ] {E : Enc τ} (h : Ev E) : Ev (eL E) := ⟨fun x y => by simp only [eL, PyData.eqv]; exact eqvAll_map h x y⟩
theorem evV {τ : Type} [DecidableEq τ] {E : Enc τ} (h : Ev E) : Ev (eV E) := ⟨fun x y => by simp only [eV, PyData.eqv]; exact eqvAll_map h x y⟩
section
variable {α β γ δ : Type} [DecidableEq α] [DecidableEq β] [DecidableEq γ] [DecidableEq δ] {A : Enc α} {B : Enc β} {G : Enc γ} {D : Enc δ}
theorem evT2 (a : Ev A) (b : Ev B) : Ev (eT2 A B) := ⟨fun x y => by
  obtain ⟨x1, x2⟩ := x
  obtain ⟨y1, y2⟩ := y
  simp only [eT2, PyData.eqv, PyData.eqvAll, a.eq, b.eq, Bool.and_true, Prod.mk.injEq, Bool.decide_and]⟩
theorem evT3 (a : Ev A) (b : Ev B) (g : Ev G) : Ev (eT3 A B G) := ⟨fun x y => by
  obtain ⟨x1, x2, x3⟩ := x
  obtain ⟨y1, y2, y3⟩ := y
  simp only [eT3, PyData.eqv, PyData.eqvAll, a.eq, b.eq, g.eq, Bool.and_true, Prod.mk.injEq, Bool.decide_and]⟩
theorem evT4 (a : Ev A) (b : Ev B) (g : Ev G) (d : Ev D) : Ev (eT4 A B G D) := ⟨fun x y => by
  obtain ⟨x1, x2, x3, x4⟩ := x
  obtain ⟨y1, y2, y3, y4⟩ := y
  simp only [eT4, PyData.eqv, PyData.eqvAll, a.eq, b.eq, g.eq, d.eq, Bool.and_true, Prod.mk.injEq, Bool.decide_and]⟩
end
/-- an order: < of this kind -/
structure Od {τ : Type} (E : Enc τ) (lt : τ → τ → Bool) : Prop where
  lt : ∀ x y, PySem.W.dataLt (E.enc x) (E.enc y) = lt x y
  al : ∀ x y, PySem.W.alike (E.enc x) (E.enc y) = true
  nn : ∀ x, E.enc x ≠ .none
def ltI (x y : Int) : Bool := decide (x < y)
theorem odI : Od eI ltI := ⟨fun x y => by
  have h := PySem.W.minD_ints x [y]
  simp only [PySem.W.minD, List.map_cons, List.map_nil, List.foldl_cons, List.foldl_nil] at h
  have h2 := PySem.W.minD_ints y [x]
  simp only [PySem.W.minD, List.map_cons, List.map_nil, List.foldl_cons, List.foldl_nil] at h2
  show PySem.W.dataLt (.int x) (.int y) = _
  unfold ltI
  by_cases c : x < y
  · rw [decide_eq_true c]
    cases e : PySem.W.dataLt (.int x) (.int y) with
    | true => rfl
    | false =>
      rw [e] at h2
      simp at h2; omega
  · rw [decide_eq_false c]
    cases e : PySem.W.dataLt (.int x) (.int y) with
    | false => rfl
    | true =>
      rw [e] at h2
      simp at h2
      by_cases c2 : x = y
      · subst c2
        unfold PySem.W.dataLt at e
        rw [PyProof.Rows.lex_irrefl] at e
        cases e
      · omega, fun _ _ => rfl, fun _ h => by cases h⟩
section
variable {α β γ δ : Type} [DecidableEq α] [DecidableEq β] [DecidableEq γ] {A : Enc α} {B : Enc β} {G : Enc γ} {la : α → α → Bool} {lb : β → β → Bool} {lg : γ → γ → Bool}
theorem lt_cons {x y : PyData} {xs ys : List PyData} (h : PySem.W.alike x y = true) : PySem.W.dataLt (.tuple (x :: xs)) (.tuple (y :: ys)) = if PyData.eqv x y = true then PySem.W.dataLt (.tuple xs) (.tuple ys) else PySem.W.dataLt x y := by
  rw [PySem.W.dataLt_tuple, PySem.W.dataLt_tuple]
  cases e : PyData.eqv x y with
  | true => rw [if_pos rfl]; exact PySem.W.dataLt_all_yes h e
  | false => rw [if_neg Bool.false_ne_true]; exact PySem.W.dataLt_all_no h e
def lt2 (la : α → α → Bool) (lb : β → β → Bool) (x y : α × β) : Bool := if x.1 = y.1 then lb x.2 y.2 else la x.1 y.1
def lt3 (la : α → α → Bool) (lb : β → β → Bool) (lg : γ → γ → Bool) (x y : α × β × γ) : Bool := if x.1 = y.1 then (if x.2.1 = y.2.1 then lg x.2.2 y.2.2 else lb x.2.1 y.2.1) else la x.1 y.1
theorem lt_one {x y : PyData} (h : PySem.W.alike x y = true) : PySem.W.dataLt (.tuple [x]) (.tuple [y]) = PySem.W.dataLt x y := by
  rw [lt_cons h]
  cases e : PyData.eqv x y with
  | false => rw [if_neg Bool.false_ne_true]
  | true =>
    rw [if_pos rfl]
    have := (PySem.W.toks_eqv x y h).1 e
    unfold PySem.W.dataLt
    rw [this, PyProof.Rows.lex_irrefl, PyProof.Rows.lex_irrefl]
theorem odT2 (ea : Ev A) (a : Od A la) (b : Od B lb) : Od (eT2 A B) (lt2 la lb) := ⟨fun x y => by
  obtain ⟨x1, x2⟩ := x
  obtain ⟨y1, y2⟩ := y
  show PySem.W.dataLt (.tuple [A.enc x1, B.enc x2]) (.tuple [A.enc y1, B.enc y2]) = _
  rw [lt_cons (a.al _ _), lt_one (b.al _ _), ea.eq, a.lt, b.lt]
  unfold lt2
  simp only [decide_eq_true_eq], fun x y => by
  obtain ⟨x1, x2⟩ := x
  obtain ⟨y1, y2⟩ := y
  show PySem.W.alike (.tuple [A.enc x1, B.enc x2]) (.tuple [A.enc y1, B.enc y2]) = true
  simp only [PySem.W.alike, PySem.W.alikeAll, a.al, b.al, Bool.and_self], fun _ h => by cases h⟩
theorem odT3 (ea : Ev A) (eb : Ev B) (a : Od A la) (b : Od B lb) (g : Od G lg) : Od (eT3 A B G) (lt3 la lb lg) := ⟨fun x y => by
  obtain ⟨x1, x2, x3⟩ := x
  obtain ⟨y1, y2, y3⟩ := y
  show PySem.W.dataLt (.tuple [A.enc x1, B.enc x2, G.enc x3]) (.tuple [A.enc y1, B.enc y2, G.enc y3]) = _
  rw [lt_cons (a.al _ _), lt_cons (b.al _ _), lt_one (g.al _ _), ea.eq, eb.eq, a.lt, b.lt, g.lt]
  unfold lt3
  simp only [decide_eq_true_eq], fun x y => by
  obtain ⟨x1, x2, x3⟩ := x
  obtain ⟨y1, y2, y3⟩ := y
  show PySem.W.alike (.tuple [A.enc x1, B.enc x2, G.enc x3]) (.tuple [A.enc y1, B.enc y2, G.enc y3]) = true
  simp only [PySem.W.alike, PySem.W.alikeAll, a.al, b.al, g.al, Bool.and_self], fun _ h => by cases h⟩
end

/-! ### data as the layer's rules read them -/
mutual
theorem Rep.dp {K : Fg} {F H : Hp} (s : Same F H) : ∀ {v : V} {d : PyData}, Rep K F v d → d.canLay0 = true → Dp K H v d
  | _, _, .non, _ => .non
  | _, _, .bl b, _ => .bl b
  | _, _, .int i, _ => .int i
  | _, _, .str x, _ => .str x
  | _, _, .lst h r, c => .lst (SqL.of (s _ _ h)) (RepAll.dp s r (by rwa [PyData.canLay0] at c))
  | _, _, .tup h r, c => .tup (same_sqT s h) (RepAll.dp s r (by rwa [PyData.canLay0] at c))
  | _, _, .dK h r, c => by rw [PyData.canLay0] at c; cases c
  | _, _, .dT h r, c => by rw [PyData.canLay0] at c; cases c
theorem RepAll.dp {K : Fg} {F H : Hp} (s : Same F H) : ∀ {vs : List V} {ds : List PyData}, RepAll K F vs ds → PyData.canLayAll0 ds = true → DpAll K H vs ds
  | _, _, .nil, _ => .nil
  | _, _, .cons h r, c => by
    rw [PyData.canLayAll0] at c
    have c' := Bool.and_eq_true_iff.mp c
    exact .cons (Rep.dp s h c'.1) (RepAll.dp s r c'.2)
end
structure Dv {τ : Type} (S : Stor τ) (E : Enc τ) : Prop where
  dp : ∀ {K : Fg} {F H : Hp} {fp : List Addr} {v : V} {x : τ}, Same F H → (E.enc x).canLay0 = true → S.rel K F H fp v x → Dp K H v (E.enc x)
section
variable {τ τ1 τ2 α β : Type} {S : Stor τ} {S1 : Stor τ1} {S2 : Stor τ2} {E : Enc τ} {E1 : Enc τ1} {E2 : Enc τ2}
theorem dv_it : Dv (it E) E := ⟨fun s c r => r.2.dp s c⟩
theorem RelAll.dps {K : Fg} {H : Hp} {R : List Addr → V → τ → Prop} : ∀ {fp : List Addr} {vs : List V} {xs : List τ}, (∀ fq v x, R fq v x → (E.enc x).canLay0 = true → Dp K H v (E.enc x)) → PyData.canLayAll0 (xs.map E.enc) = true → RelAll R fp vs xs → DpAll K H vs (xs.map E.enc)
  | _, _, _, _, _, .nil => .nil
  | _, _, _, f, c, .cons h r => by
    rw [List.map_cons, PyData.canLayAll0] at c
    have c' := Bool.and_eq_true_iff.mp c
    exact .cons (f _ _ _ h c'.1) (RelAll.dps f c'.2 r)
theorem dv_ls (d : Dv S E) : Dv (ls S) (eL E) := ⟨fun {K F H fp v x} s c r => by
  obtain ⟨p, vs, fps, rfl, h, ra, rfl⟩ := r
  have c' : PyData.canLayAll0 (x.map E.enc) = true := by
    have : PyData.canLay0 (.list (x.map E.enc)) = true := c
    rwa [PyData.canLay0] at this
  exact .lst (SqL.of h) (ra.dps (fun _ _ _ q c => d.dp s c q) c')⟩
theorem shaped_of {d : PyData} (h1 : d.canLay0 = true) (h2 : d.depth ≤ 64) : SeqAt.shaped d = true := by
  unfold SeqAt.shaped
  rw [h1, decide_eq_true h2]; rfl
variable {X : Cx} {Ω : Type} {env : Env} {nm : Str} {pos np : Pos} {a b : Expr} {P P1 P2 : Type} {G : Env → Prop} {G1 : Env → Prop} {G2 : P1 → Env → Prop} {e' : P → Env} {e1 : P1 → Env} {e2 : P1 → P2 → Env} {fa : (τ1 → P1 → Option Ω) → Option Ω} {fb : P1 → (τ2 → P2 → Option Ω) → Option Ω}
/-- == of data of two kinds -/
theorem lc_eqD {n m : Nat} (hu : X.A.units + 64 < cLine) (d1 : Dv S1 E1) (d2 : Dv S2 E2) (t1 : Dt E1 n) (t2 : Dt E2 m) (ha : LO X G1 env a S1 e1 fa) (hb : ∀ p1, LO X (G2 p1) (e1 p1) b S2 (e2 p1) (fb p1)) (g1 : ∀ p1 p2, G1 (e2 p1 p2)) (g2 : ∀ p1 p2, G2 p1 (e2 p1 p2)) (hn : n ≤ 64 := by decide) (hm : m ≤ 64 := by decide) :
    LC X env .Eq a b (fun p : P1 × P2 => e2 p.1 p.2) (fun k => fa fun x p1 => fb p1 fun y p2 => k (PyData.eqv (E1.enc x) (E2.enc y)) (p1, p2)) :=
  lc_cmp (op_eqD hu) ha hb g1 g2 fun K F H fp fq v u x y Q hK s r1 r2 q => by
    subst hK
    exact ⟨_, _, d1.dp s (t1.lay x) r1, d2.dp s (t2.lay y) r2, shaped_of (t1.lay x) (Nat.le_trans (t1.dep x) hn), shaped_of (t2.lay y) (Nat.le_trans (t2.dep y) hm), q⟩
theorem lc_neD {n m : Nat} (hu : X.A.units + 64 < cLine) (d1 : Dv S1 E1) (d2 : Dv S2 E2) (t1 : Dt E1 n) (t2 : Dt E2 m) (ha : LO X G1 env a S1 e1 fa) (hb : ∀ p1, LO X (G2 p1) (e1 p1) b S2 (e2 p1) (fb p1)) (g1 : ∀ p1 p2, G1 (e2 p1 p2)) (g2 : ∀ p1 p2, G2 p1 (e2 p1 p2)) (hn : n ≤ 64 := by decide) (hm : m ≤ 64 := by decide) :
    LC X env .NotEq a b (fun p : P1 × P2 => e2 p.1 p.2) (fun k => fa fun x p1 => fb p1 fun y p2 => k (!PyData.eqv (E1.enc x) (E2.enc y)) (p1, p2)) :=
  lc_cmp (op_neD hu) ha hb g1 g2 fun K F H fp fq v u x y Q hK s r1 r2 q => by
    subst hK
    exact ⟨_, _, d1.dp s (t1.lay x) r1, d2.dp s (t2.lay y) r2, shaped_of (t1.lay x) (Nat.le_trans (t1.dep x) hn), shaped_of (t2.lay y) (Nat.le_trans (t2.dep y) hm), q⟩
/-- .. of any data, with a check -/
theorem lc_eqC (hu : X.A.units + 64 < cLine) (d1 : Dv S1 E1) (d2 : Dv S2 E2) (ha : LO X G1 env a S1 e1 fa) (hb : ∀ p1, LO X (G2 p1) (e1 p1) b S2 (e2 p1) (fb p1)) (g1 : ∀ p1 p2, G1 (e2 p1 p2)) (g2 : ∀ p1 p2, G2 p1 (e2 p1 p2)) :
    LC X env .Eq a b (fun p : P1 × P2 => e2 p.1 p.2) (fun k => fa fun x p1 => fb p1 fun y p2 => ck (SeqAt.shaped (E1.enc x) && SeqAt.shaped (E2.enc y)) (k (PyData.eqv (E1.enc x) (E2.enc y)) (p1, p2))) :=
  lc_cmpC (c := fun x y => SeqAt.shaped (E1.enc x) && SeqAt.shaped (E2.enc y)) (op_eqD hu) ha hb g1 g2 fun K F H fp fq v u x y Q hK s hc r1 r2 q => by
    subst hK
    obtain ⟨c1, c2⟩ := Bool.and_eq_true_iff.mp hc
    exact ⟨_, _, d1.dp s (SeqAt.canLay_of_shaped c1) r1, d2.dp s (SeqAt.canLay_of_shaped c2) r2, c1, c2, q⟩
theorem lc_neC (hu : X.A.units + 64 < cLine) (d1 : Dv S1 E1) (d2 : Dv S2 E2) (ha : LO X G1 env a S1 e1 fa) (hb : ∀ p1, LO X (G2 p1) (e1 p1) b S2 (e2 p1) (fb p1)) (g1 : ∀ p1 p2, G1 (e2 p1 p2)) (g2 : ∀ p1 p2, G2 p1 (e2 p1 p2)) :
    LC X env .NotEq a b (fun p : P1 × P2 => e2 p.1 p.2) (fun k => fa fun x p1 => fb p1 fun y p2 => ck (SeqAt.shaped (E1.enc x) && SeqAt.shaped (E2.enc y)) (k (!PyData.eqv (E1.enc x) (E2.enc y)) (p1, p2))) :=
  lc_cmpC (c := fun x y => SeqAt.shaped (E1.enc x) && SeqAt.shaped (E2.enc y)) (op_neD hu) ha hb g1 g2 fun K F H fp fq v u x y Q hK s hc r1 r2 q => by
    subst hK
    obtain ⟨c1, c2⟩ := Bool.and_eq_true_iff.mp hc
    exact ⟨_, _, d1.dp s (SeqAt.canLay_of_shaped c1) r1, d2.dp s (SeqAt.canLay_of_shaped c2) r2, c1, c2, q⟩
theorem lc_eqT [DecidableEq τ1] {S2 : Stor τ1} {fb : P1 → (τ1 → P2 → Option Ω) → Option Ω} {n : Nat} (hu : X.A.units + 64 < cLine) (d1 : Dv S1 E1) (d2 : Dv S2 E1) (t : Dt E1 n) (ev : Ev E1) (ha : LO X G1 env a S1 e1 fa) (hb : ∀ p1, LO X (G2 p1) (e1 p1) b S2 (e2 p1) (fb p1)) (g1 : ∀ p1 p2, G1 (e2 p1 p2)) (g2 : ∀ p1 p2, G2 p1 (e2 p1 p2)) (hn : n ≤ 64 := by decide) :
    LC X env .Eq a b (fun p : P1 × P2 => e2 p.1 p.2) (fun k => fa fun x p1 => fb p1 fun y p2 => k (decide (x = y)) (p1, p2)) :=
  lc_cmp (op_eqD hu) ha hb g1 g2 fun K F H fp fq v u x y Q hK s r1 r2 q => by
    subst hK
    exact ⟨_, _, d1.dp s (t.lay x) r1, d2.dp s (t.lay y) r2, shaped_of (t.lay x) (Nat.le_trans (t.dep x) hn), shaped_of (t.lay y) (Nat.le_trans (t.dep y) hn), by rw [ev.eq]; exact q⟩
theorem lc_neT [DecidableEq τ1] {S2 : Stor τ1} {fb : P1 → (τ1 → P2 → Option Ω) → Option Ω} {n : Nat} (hu : X.A.units + 64 < cLine) (d1 : Dv S1 E1) (d2 : Dv S2 E1) (t : Dt E1 n) (ev : Ev E1) (ha : LO X G1 env a S1 e1 fa) (hb : ∀ p1, LO X (G2 p1) (e1 p1) b S2 (e2 p1) (fb p1)) (g1 : ∀ p1 p2, G1 (e2 p1 p2)) (g2 : ∀ p1 p2, G2 p1 (e2 p1 p2)) (hn : n ≤ 64 := by decide) :
    LC X env .NotEq a b (fun p : P1 × P2 => e2 p.1 p.2) (fun k => fa fun x p1 => fb p1 fun y p2 => k (!decide (x = y)) (p1, p2)) :=
  lc_cmp (op_neD hu) ha hb g1 g2 fun K F H fp fq v u x y Q hK s r1 r2 q => by
    subst hK
    exact ⟨_, _, d1.dp s (t.lay x) r1, d2.dp s (t.lay y) r2, shaped_of (t.lay x) (Nat.le_trans (t.dep x) hn), shaped_of (t.lay y) (Nat.le_trans (t.dep y) hn), by rw [ev.eq]; exact q⟩
/-- is None, is not None -/
def isNone (d : PyData) : Bool := match d with
  | .none => true
  | _ => false
theorem enc_none {v : V} {K : Fg} {F : Hp} {d : PyData} (h : Rep K F v d) : decide (v = .non) = isNone d := by
  cases h <;> simp [isNone]
theorem lc_isN {fp1 : (τ1 → P1 → Option Ω) → Option Ω} {j : Nat} {cp : Pos} (ha : LX X env a (it E1) e1 fp1) : LC X env .Is a (.Constant .none j cp) (fun p : P1 × Unit => e1 p.1) (fun k => fp1 fun x p1 => k (isNone (E1.enc x)) (p1, ())) :=
  lc_cmp (g := fun x _ => isNone (E1.enc x)) op_isN (lo_of ha) (fun p1 => lo_of (lx_non (env := e1 p1))) (fun _ _ => trivial) (fun _ _ => trivial) fun K F H fp fq v u x y Q hK s r1 r2 q => by
    obtain ⟨_, r1⟩ := r1
    obtain ⟨_, r2⟩ := r2
    have r2' : Rep K F u .none := r2
    cases r2'
    exact ⟨rfl, by rw [enc_none r1]; exact q⟩
theorem lc_notN {fp1 : (τ1 → P1 → Option Ω) → Option Ω} {j : Nat} {cp : Pos} (ha : LX X env a (it E1) e1 fp1) : LC X env .IsNot a (.Constant .none j cp) (fun p : P1 × Unit => e1 p.1) (fun k => fp1 fun x p1 => k (!isNone (E1.enc x)) (p1, ())) :=
  lc_cmp (g := fun x _ => !isNone (E1.enc x)) op_notN (lo_of ha) (fun p1 => lo_of (lx_non (env := e1 p1))) (fun _ _ => trivial) (fun _ _ => trivial) fun K F H fp fq v u x y Q hK s r1 r2 q => by
    obtain ⟨_, r1⟩ := r1
    obtain ⟨_, r2⟩ := r2
    have r2' : Rep K F u .none := r2
    cases r2'
    exact ⟨rfl, by rw [enc_none r1]; exact q⟩

/-! ### min, max, sorted of lists of data -/
def rMinD (K : Fg) : List V → Hp → VK → Prop := fun vs H Q => ∃ (p : Addr) (its : List V) (x : PyData) (xs : List PyData), vs = [.ref p] ∧ SqL K H p its ∧ DpAll K H its (x :: xs) ∧ PyData.canLayAll0 (x :: xs) = true ∧ PySem.W.AlikeAll (x :: xs) ∧ PyData.depthAll (x :: xs) ≤ 60 ∧
  ∀ (i : Nat) (v : V), its[i]? = some v → (x :: xs)[i]? = some (PySem.W.minD x xs) → Q v H
def rMaxD (K : Fg) : List V → Hp → VK → Prop := fun vs H Q => ∃ (p : Addr) (its : List V) (x : PyData) (xs : List PyData), vs = [.ref p] ∧ SqL K H p its ∧ DpAll K H its (x :: xs) ∧ PyData.canLayAll0 (x :: xs) = true ∧ PySem.W.AlikeAll (x :: xs) ∧ PyData.depthAll (x :: xs) ≤ 60 ∧
  ∀ (i : Nat) (v : V), its[i]? = some v → (x :: xs)[i]? = some (PySem.W.maxD x xs) → Q v H
theorem canLay_get : ∀ {ds : List PyData} {i : Nat} {d : PyData}, PyData.canLayAll0 ds = true → ds[i]? = some d → d.canLay0 = true
  | [], _, _, _, e => by simp at e
  | d :: ds, 0, _, c, e => by
    rw [PyData.canLayAll0] at c
    simp at e; subst e
    exact (Bool.and_eq_true_iff.mp c).1
  | d :: ds, i + 1, _, c, e => by
    rw [PyData.canLayAll0] at c
    exact canLay_get (Bool.and_eq_true_iff.mp c).2 (by simpa using e)
theorem readsAll_get {h : Heap} : ∀ {us : List Value} {ds : List PyData} {as : List Addr} {i : Nat} {u : Value}, ReadsAll h us ds as → us[i]? = some u → ∃ d bs, ds[i]? = some d ∧ Reads h u d bs
  | _, _, _, _, _, .nil, e => by simp at e
  | _, _, _, 0, _, .cons r _, e => by simp at e; subst e; exact ⟨_, _, rfl, r⟩
  | _, _, _, i + 1, _, .cons _ r, e => by
    obtain ⟨d, bs, h1, h2⟩ := readsAll_get (i := i) r (by simpa using e)
    exact ⟨d, bs, by simpa using h1, h2⟩
theorem cr_minD (hc : X.calm = true) (hu : X.A.units + 64 < cLine) : CallR X (.builtin "min") (rMinD X.K) := by
  intro pins s σ H vs us Q I r h
  obtain ⟨p, its, x, xs, rfl, hs, hd, hl0, hal, hdep, q⟩ := h
  obtain ⟨uts, rv, pl, hz⟩ := I.list hs
  rw [Vals.ref1 r]
  obtain ⟨as, hr⟩ := Dp.readsAll I (x :: xs) its uts hd rv
  refine PySem.W.min_list_data (I.ok.hd hc) pl.isList hr hal (by omega) fun i u h' tk bs hi hr' hk => ?_
  have hi' : uts[i]? = some u := by simpa using hi
  obtain ⟨d, cs, e1, r1⟩ := readsAll_get hr hi'
  have r1' := PyProof.Rows.Reads.keeps hk r1
  have e2 : d = PySem.W.minD x xs := PySem.SeqAt.Reads.unique d _ u _ _ (canLay_get hl0 e1) r1' hr'
  have hlen := rv.length
  have hi2 : i < its.length := by
    have := (List.getElem?_eq_some_iff.mp hi').1
    omega
  obtain ⟨w, hw, rw'⟩ := Vals.get rv (List.getElem?_eq_getElem hi2)
  rw [hi'] at hw; cases hw
  exact ⟨_, H, I.kept hk, rw', q i _ (List.getElem?_eq_getElem hi2) (by rw [e1, e2])⟩
theorem cr_maxD (hc : X.calm = true) (hu : X.A.units + 64 < cLine) : CallR X (.builtin "max") (rMaxD X.K) := by
  intro pins s σ H vs us Q I r h
  obtain ⟨p, its, x, xs, rfl, hs, hd, hl0, hal, hdep, q⟩ := h
  obtain ⟨uts, rv, pl, hz⟩ := I.list hs
  rw [Vals.ref1 r]
  obtain ⟨as, hr⟩ := Dp.readsAll I (x :: xs) its uts hd rv
  refine PySem.W.max_list_data (I.ok.hd hc) pl.isList hr hal (by omega) fun i u h' tk bs hi hr' hk => ?_
  have hi' : uts[i]? = some u := by simpa using hi
  obtain ⟨d, cs, e1, r1⟩ := readsAll_get hr hi'
  have r1' := PyProof.Rows.Reads.keeps hk r1
  have e2 : d = PySem.W.maxD x xs := PySem.SeqAt.Reads.unique d _ u _ _ (canLay_get hl0 e1) r1' hr'
  have hlen := rv.length
  have hi2 : i < its.length := by
    have := (List.getElem?_eq_some_iff.mp hi').1
    omega
  obtain ⟨w, hw, rw'⟩ := Vals.get rv (List.getElem?_eq_getElem hi2)
  rw [hi'] at hw; cases hw
  exact ⟨_, H, I.kept hk, rw', q i _ (List.getElem?_eq_getElem hi2) (by rw [e1, e2])⟩
/-- the first least, the first greatest, by < -/
def minB {α : Type} (lt : α → α → Bool) : List α → Option α
  | [] => none
  | x :: xs => some (xs.foldl (fun a y => if lt y a = true then y else a) x)
def maxB {α : Type} (lt : α → α → Bool) : List α → Option α
  | [] => none
  | x :: xs => some (xs.foldl (fun a y => if lt a y = true then y else a) x)
theorem minD_enc {E : Enc α} {lt : α → α → Bool} (od : Od E lt) : ∀ (xs : List α) (x : α), PySem.W.minD (E.enc x) (xs.map E.enc) = E.enc (xs.foldl (fun a y => if lt y a = true then y else a) x)
  | [], x => rfl
  | y :: xs, x => by
    show List.foldl _ (if PySem.W.dataLt (E.enc y) (E.enc x) = true then E.enc y else E.enc x) (xs.map E.enc) = _
    rw [od.lt, List.foldl_cons]
    have := minD_enc od xs (if lt y x = true then y else x)
    unfold PySem.W.minD at this
    rw [← this]
    congr 1
    cases lt y x <;> simp
theorem maxD_enc {E : Enc α} {lt : α → α → Bool} (od : Od E lt) : ∀ (xs : List α) (x : α), PySem.W.maxD (E.enc x) (xs.map E.enc) = E.enc (xs.foldl (fun a y => if lt a y = true then y else a) x)
  | [], x => rfl
  | y :: xs, x => by
    show List.foldl _ (if PySem.W.dataLt (E.enc x) (E.enc y) = true then E.enc y else E.enc x) (xs.map E.enc) = _
    rw [od.lt, List.foldl_cons]
    have := maxD_enc od xs (if lt x y = true then y else x)
    unfold PySem.W.maxD at this
    rw [← this]
    congr 1
    cases lt x y <;> simp
theorem od_all {E : Enc α} {lt : α → α → Bool} (od : Od E lt) (xs : List α) : PySem.W.AlikeAll (xs.map E.enc) := ⟨fun x hx y hy => by
  obtain ⟨a, _, rfl⟩ := List.mem_map.mp hx
  obtain ⟨b, _, rfl⟩ := List.mem_map.mp hy
  exact od.al a b, fun x hx => by
  obtain ⟨a, _, rfl⟩ := List.mem_map.mp hx
  exact od.nn a⟩
section
variable {E : Enc α} {lt : α → α → Bool} {g : τ → List α} {f : (τ → P → Option Ω) → Option Ω} {n : Nat}
theorem dts {E : Enc α} (dt : Dt E n) (xs : List α) : PyData.canLayAll0 (xs.map E.enc) = true ∧ PyData.depthAll (xs.map E.enc) ≤ n :=
  ⟨canLayAll_of fun d m => by obtain ⟨y, _, rfl⟩ := List.mem_map.mp m; exact dt.lay y, depthAll_of fun d m => by obtain ⟨y, _, rfl⟩ := List.mem_map.mp m; exact dt.dep y⟩
theorem lx_minD (hc : X.calm = true) (hu : X.A.units + 64 < cLine) (od : Od E lt) (dt : Dt E n) (hv : LVw S (it E) g) (hm : X.mg "min" = none) (ha : LO X G env a S e' f) (hG : ∀ p, G (e' p)) (hn : n ≤ 60 := by decide) (hg : Gl X "min" := by rfl) (he : starEach (a :: []) X.env = (false, eval a X.env) :: starEach [] X.env := by rfl) (hpl : (backTo pos (starEach [] X.env)).any (·.1) = false := by rfl) :
    LX X env (.Call (.Name "min" np) [a] [] pos) (it E) e' (fun k => f fun x p => (minB lt (g x)).bind fun y => k y p) :=
  lx_b1 (E := E) (g := fun x : τ => minB lt (g x)) (cr_minD hc hu) hm boot_min ha hG (fun K F H fp v x y Q hK s hy r q => by
    subst hK
    obtain ⟨p, vs, fps, rfl, h1, h2⟩ := hv.view s r
    have rp := h2.zero.2
    cases hgx : g x with
    | nil => rw [hgx] at hy; cases hy
    | cons z zs =>
      rw [hgx] at hy rp
      have hy' : y = zs.foldl (fun a y => if lt y a = true then y else a) z := (Option.some.inj hy).symm
      have hd := dts dt (z :: zs)
      refine ⟨p, vs, E.enc z, zs.map E.enc, rfl, h1, rp.dp s hd.1, hd.1, od_all od (z :: zs), Nat.le_trans hd.2 hn, fun i v hi hv => ?_⟩
      rw [minD_enc od, ← hy'] at hv
      obtain ⟨w, hw, rr⟩ := rp.get (i := i) (d := E.enc y) (by rw [← hv]; rfl)
      rw [hi] at hw; cases hw
      exact q _ rr) hg (by decide) (by decide) he hpl
theorem lx_maxD (hc : X.calm = true) (hu : X.A.units + 64 < cLine) (od : Od E lt) (dt : Dt E n) (hv : LVw S (it E) g) (hm : X.mg "max" = none) (ha : LO X G env a S e' f) (hG : ∀ p, G (e' p)) (hn : n ≤ 60 := by decide) (hg : Gl X "max" := by rfl) (he : starEach (a :: []) X.env = (false, eval a X.env) :: starEach [] X.env := by rfl) (hpl : (backTo pos (starEach [] X.env)).any (·.1) = false := by rfl) :
    LX X env (.Call (.Name "max" np) [a] [] pos) (it E) e' (fun k => f fun x p => (maxB lt (g x)).bind fun y => k y p) :=
  lx_b1 (E := E) (g := fun x : τ => maxB lt (g x)) (cr_maxD hc hu) hm boot_max ha hG (fun K F H fp v x y Q hK s hy r q => by
    subst hK
    obtain ⟨p, vs, fps, rfl, h1, h2⟩ := hv.view s r
    have rp := h2.zero.2
    cases hgx : g x with
    | nil => rw [hgx] at hy; cases hy
    | cons z zs =>
      rw [hgx] at hy rp
      have hy' : y = zs.foldl (fun a y => if lt a y = true then y else a) z := (Option.some.inj hy).symm
      have hd := dts dt (z :: zs)
      refine ⟨p, vs, E.enc z, zs.map E.enc, rfl, h1, rp.dp s hd.1, hd.1, od_all od (z :: zs), Nat.le_trans hd.2 hn, fun i v hi hv => ?_⟩
      rw [maxD_enc od, ← hy'] at hv
      obtain ⟨w, hw, rr⟩ := rp.get (i := i) (d := E.enc y) (by rw [← hv]; rfl)
      rw [hi] at hw; cases hw
      exact q _ rr) hg (by decide) (by decide) he hpl
end
end
end Z

set_option Elab.async false
set_option linter.all false
set_option maxRecDepth 100000
namespace Z
open PySem PySem.Spec PyProof.Rows L2

/-- a slice, as the layer cuts it -/
def cutL {α : Type} (xs : List α) (lo hi : Option Int) : List α := (xs.drop (HT.sIx xs.length 0 lo)).take (HT.sIx xs.length xs.length hi - HT.sIx xs.length 0 lo)
section
variable {X : Cx} {Ω : Type} {env : Env} {nm : Str} {pos np sp : Pos} {a b c : Expr} {P P1 P2 P3 : Type} {τ τ1 τ2 α β : Type} {S : Stor τ} {S1 : Stor τ1} {S2 : Stor τ2} {E : Enc α} {Eb : Enc β} {G : Env → Prop} {G1 : Env → Prop} {G2 : P1 → Env → Prop} {e' : P → Env} {e1 : P1 → Env} {e2 : P1 → P2 → Env} {e3 : P1 → P2 → P3 → Env}
  {fa : (τ1 → P1 → Option Ω) → Option Ω} {fb : P1 → (τ2 → P2 → Option Ω) → Option Ω} {g1 : τ1 → List α} {g2 : τ2 → List α}
/-- xs + ys -/
theorem lx_cat (hv1 : LVm S1 (it E) g1) (hv2 : LVm S2 (it E) g2) (ha : LO X G1 env a S1 e1 fa) (hb : ∀ p1, LO X (G2 p1) (e1 p1) b S2 (e2 p1) (fb p1)) (h1 : ∀ p1 p2, G1 (e2 p1 p2)) (h2 : ∀ p1 p2, G2 p1 (e2 p1 p2)) :
    LX X env (.BinOp a .Add b pos) (ls (it E)) (fun p : P1 × P2 => e2 p.1 p.2) (fun k => fa fun x p1 => fb p1 fun y p2 => ck (decide ((g1 x).length + (g2 y).length ≤ SZ)) (k (g1 x ++ g2 y) (p1, p2))) :=
  fun C F H σs es σ k ω Q hK hl h hk q => tE.of X (pe_op op_cat (peC X) (peC X)) (op2_run ha hb h1 h2 hK hl h hk fun x p1 y p2 v u F' H' fp fq hk' h' r1 r2 => by
    obtain ⟨hc, hk'⟩ := ck_some hk'
    obtain ⟨p, vs, fps, rfl, l1, ra⟩ := hv1.view h'.sF r1
    obtain ⟨p', ws, fqs, rfl, l2, rb⟩ := hv2.view h'.sF r2
    have hc' := of_decide_eq_true hc
    have n1 := ra.length
    have n2 := rb.length
    refine ⟨p, p', vs, ws, rfl, rfl, l1, l2, by rw [SZ_eq]; omega, fun t nt => ?_⟩
    refine q (g1 x ++ g2 y) (p1, p2) (.ref t) F' _ hk' (h'.newOw nt ⟨t, vs ++ ws, [], rfl, upd_same, ?_, rfl⟩)
    have := ra.zero.2.app rb.zero.2
    rw [← List.map_append] at this
    exact this.zero)
theorem RepAll.cut {K : Fg} {F : Hp} {vs : List V} {xs : List α} (lo hi : Option Int) (h : RepAll K F vs (xs.map E.enc)) : RepAll K F (cutV vs lo hi) ((cutL xs lo hi).map E.enc) := by
  have hl : vs.length = xs.length := by have := h.length; simpa using this
  unfold cutV cutL
  rw [hl, List.map_take, List.map_drop]
  exact (h.drop _).take _
/-- xs[i:j] -/
theorem lx_sl2 {fi : P1 → (Int → P2 → Option Ω) → Option Ω} {fj : P1 → P2 → (Int → P3 → Option Ω) → Option Ω} (hv : LVw S1 (it E) g1) (ha : LX X env a S1 e1 fa) (hi : ∀ p1, LX X (e1 p1) b (it eI) (e2 p1) (fi p1)) (hj : ∀ p1 p2, LX X (e2 p1 p2) c (it eI) (e3 p1 p2) (fj p1 p2)) :
    LX X env (.Subscript a (.Slice (some b) (some c) none sp) pos) (ls (it E)) (fun p : P1 × P2 × P3 => e3 p.1 p.2.1 p.2.2) (fun k => fa fun x p1 => fi p1 fun i p2 => fj p1 p2 fun j p3 => k (cutL (g1 x) (some i) (some j)) (p1, p2, p3)) :=
  fun C F H σs es σ k ω Q hK hl h hk q => tE.of X (pe_slice sl_list (peC X) (po_some (peC X)) (po_some (peC X))) (ha C F H σs es σ _ ω _ hK hl h hk fun x p1 v F1 H1 hk1 h1 => by
    refine hi p1 C F1 H1 (some v :: σs) (.st none τ1 S1 x :: es) σ _ ω _ hK (by simp [hl]) h1 hk1 fun i p2 u F2 H2 hk2 h2 => ?_
    have hu : u = .int i := by
      obtain ⟨v', fp, e1, r⟩ := h2.look (i := 0) rfl
      simp at e1; subst e1
      obtain ⟨_, r⟩ := r
      cases r; rfl
    subst hu
    refine ⟨i, rfl, hj p1 p2 C F2 H2 (some v :: σs) (.st none τ1 S1 x :: es) σ _ ω _ hK (by simp [hl]) h2.pop hk2 fun j p3 u F3 H3 hk3 h3 => ?_⟩
    have hu : u = .int j := by
      obtain ⟨v', fp, e1, r⟩ := h3.look (i := 0) rfl
      simp at e1; subst e1
      obtain ⟨_, r⟩ := r
      cases r; rfl
    subst hu
    obtain ⟨v', fp, ee, r⟩ := ER.look (i := 0) (show ER C F3 H3 (some v :: (σs ++ σ)) (.st none τ1 S1 x :: (es ++ e3 p1 p2 p3)) from h3.pop) rfl
    simp at ee; subst ee
    obtain ⟨p, vs, fps, rfl, l1, ra⟩ := hv.view h3.sF r
    refine ⟨j, rfl, p, vs, rfl, by rw [← hK]; exact l1, fun t nt => ?_⟩
    exact q _ (p1, p2, p3) (.ref t) F3 _ hk3 (ER.newOw (show ER C F3 H3 (σs ++ σ) (es ++ e3 p1 p2 p3) from h3.pop.pop) nt ⟨t, _, [], rfl, upd_same, (ra.zero.2.cut (some i) (some j)).zero, rfl⟩))
/-- xs[i:] -/
theorem lx_slL {fi : P1 → (Int → P2 → Option Ω) → Option Ω} (hv : LVw S1 (it E) g1) (ha : LX X env a S1 e1 fa) (hi : ∀ p1, LX X (e1 p1) b (it eI) (e2 p1) (fi p1)) :
    LX X env (.Subscript a (.Slice (some b) none none sp) pos) (ls (it E)) (fun p : P1 × P2 => e2 p.1 p.2) (fun k => fa fun x p1 => fi p1 fun i p2 => k (cutL (g1 x) (some i) none) (p1, p2)) :=
  fun C F H σs es σ k ω Q hK hl h hk q => tE.of X (pe_slice sl_list (peC X) (po_some (peC X)) po_none) (op2_run (lo_of ha) (fun p1 => lo_of (hi p1)) (fun _ _ => trivial) (fun _ _ => trivial) (R := fun x y H => ∃ i, y = .int i ∧ rSlL X.K x (some i) none H Q) hK hl h hk
    (fun x p1 i p2 v u F' H' fp fq hk' h' r1 r2 => by
      obtain ⟨_, r2⟩ := r2
      cases r2
      obtain ⟨p, vs, fps, rfl, l1, ra⟩ := hv.view h'.sF r1
      exact ⟨i, rfl, p, vs, rfl, by rw [← hK]; exact l1, fun t nt => q _ (p1, p2) (.ref t) F' _ hk' (h'.newOw nt ⟨t, _, [], rfl, upd_same, (ra.zero.2.cut (some i) none).zero, rfl⟩)⟩))
/-- xs[:j] -/
theorem lx_slR {fi : P1 → (Int → P2 → Option Ω) → Option Ω} (hv : LVw S1 (it E) g1) (ha : LX X env a S1 e1 fa) (hi : ∀ p1, LX X (e1 p1) b (it eI) (e2 p1) (fi p1)) :
    LX X env (.Subscript a (.Slice none (some b) none sp) pos) (ls (it E)) (fun p : P1 × P2 => e2 p.1 p.2) (fun k => fa fun x p1 => fi p1 fun j p2 => k (cutL (g1 x) none (some j)) (p1, p2)) :=
  fun C F H σs es σ k ω Q hK hl h hk q => tE.of X (pe_slice sl_list (peC X) po_none (po_some (peC X))) (op2_run (lo_of ha) (fun p1 => lo_of (hi p1)) (fun _ _ => trivial) (fun _ _ => trivial) (R := fun x y H => ∃ i, y = .int i ∧ rSlL X.K x none (some i) H Q) hK hl h hk
    (fun x p1 i p2 v u F' H' fp fq hk' h' r1 r2 => by
      obtain ⟨_, r2⟩ := r2
      cases r2
      obtain ⟨p, vs, fps, rfl, l1, ra⟩ := hv.view h'.sF r1
      exact ⟨i, rfl, p, vs, rfl, by rw [← hK]; exact l1, fun t nt => q _ (p1, p2) (.ref t) F' _ hk' (h'.newOw nt ⟨t, _, [], rfl, upd_same, (ra.zero.2.cut none (some i)).zero, rfl⟩)⟩))

/-! ### sorted -/
def rSortD (K : Fg) : List V → Hp → VK → Prop := fun vs H Q => ∃ (p : Addr) (its : List V) (ds : List PyData), vs = [.ref p] ∧ SqL K H p its ∧ DpAll K H its ds ∧ PySem.W.AllAlike ds ∧ PySem.W.Sortable ds ∧ (∀ d ∈ ds, d.depth ≤ 60) ∧
  ∀ t, H t = none → Q (.ref t) (upd H t (.lst (((its.zip ds).mergeSort (PySem.W.dataLe false Prod.snd)).map Prod.fst)))
theorem eachIs_zip {its : List V} {ds : List PyData} {us : List Value} (h : Vals its us) : its.length = ds.length → PySem.W.EachIs (fun (u : Value) (p : V × PyData) => RelV p.1 u) us (its.zip ds) := by
  intro hl
  induction h generalizing ds with
  | nil => cases ds with
    | nil => exact .nil
    | cons d ds => simp at hl
  | cons r t ih => cases ds with
    | nil => simp at hl
    | cons d ds => exact .cons r (ih (by simpa using hl))
theorem eachIs_reads {h : Heap} {its : List V} {ds : List PyData} {us : List Value} {as : List Addr} (hr : ReadsAll h us ds as) (hl : its.length = ds.length) : PySem.W.EachIs (fun (u : Value) (p : V × PyData) => ∃ as, Reads h u p.2 as) us (its.zip ds) := by
  induction us generalizing its ds as with
  | nil => cases hr; cases its with
    | nil => exact .nil
    | cons _ _ => simp at hl
  | cons u us ih =>
    cases hr with
    | cons r1 r2 => cases its with
      | nil => simp at hl
      | cons v its => exact .cons ⟨_, r1⟩ (ih r2 (by simpa using hl))
theorem eachIs_vals {out : List Value} {ps : List (V × PyData)} (h : PySem.W.EachIs (fun (u : Value) (p : V × PyData) => RelV p.1 u) out ps) : Vals (ps.map Prod.fst) out := by
  induction h with
  | nil => exact .nil
  | cons r _ ih => exact .cons r ih
theorem dpAll_length {K : Fg} {H : Hp} : ∀ {vs : List V} {ds : List PyData}, DpAll K H vs ds → vs.length = ds.length
  | _, _, .nil => rfl
  | _, _, .cons _ r => congrArg (· + 1) (dpAll_length r)
theorem cr_sortD (hu : X.A.units + 64 < cLine) : CallR X (.builtin "sorted") (rSortD X.K) := by
  intro pins s σ H vs us Q I r h
  obtain ⟨p, its, ds, rfl, hs, hd, hal, hso, hdep, q⟩ := h
  obtain ⟨uts, rv, pl, hz⟩ := I.list hs
  rw [Vals.ref1 r]
  obtain ⟨as, hr⟩ := Dp.readsAll I ds its uts hd rv
  have hl := dpAll_length hd
  have hm : (its.zip ds).map Prod.snd = ds := by rw [List.map_snd_zip (by omega)]
  refine PySem.W.sorted_data (enc := Prod.snd) (bs := its.zip ds) (R := fun (u : Value) (p : V × PyData) => RelV p.1 u) pl.isList (eachIs_zip rv hl) (eachIs_reads hr hl) (by rw [hm]; exact hal) (by rw [hm]; exact hso) (by rw [List.length_zip]; omega) (fun b hb => ?_) fun out ho eo => ?_
  · have : b.2 ∈ ds := by rw [← hm]; exact List.mem_map_of_mem hb
    have := hdep _ this
    omega
  · obtain ⟨ep, he'⟩ := PyProof.Rows.sortedAll_at s.heap uts out.toArray
    have rv' := eachIs_vals eo
    have hlen : (((its.zip ds).mergeSort (PySem.W.dataLe false Prod.snd)).map Prod.fst).length ≤ sizeLine := by
      rw [List.length_map, List.length_mergeSort, List.length_zip]; omega
    exact ⟨.ref _, upd H (s.heap.objs.size + 1) (.lst (((its.zip ds).mergeSort (PySem.W.dataLe false Prod.snd)).map Prod.fst)), I.laid (t' := s.toks) (fun _ _ => PyProof.Rows.sortedAll_old) (Nat.le_succ _) ⟨hlen, out, ep, rv', he'⟩, rfl, q _ (I.hok.fresh (Nat.le_succ _))⟩
/-- sorted by <, equal ones as they stood -/
def sortB {α : Type} (lt : α → α → Bool) (xs : List α) : List α := xs.mergeSort fun x y => !lt y x
/-- tuples that are not empty, or no tuples -/
structure So (E : Enc α) : Prop where
  so : (∀ x, ∃ y r, E.enc x = .tuple (y :: r)) ∨ ∀ x, E.enc x ≠ .none ∧ ∀ r, E.enc x ≠ .tuple r
theorem soI : So eI := ⟨.inr fun _ => ⟨(fun h => by cases h), (fun _ h => by cases h)⟩⟩
theorem soT2 {A : Enc α} {B : Enc β} : So (eT2 A B) := ⟨.inl fun _ => ⟨_, _, rfl⟩⟩
theorem soT3 {γ : Type} {A : Enc α} {B : Enc β} {D : Enc γ} : So (eT3 A B D) := ⟨.inl fun _ => ⟨_, _, rfl⟩⟩
theorem soT4 {γ δ : Type} {A : Enc α} {B : Enc β} {D : Enc γ} {D' : Enc δ} : So (eT4 A B D D') := ⟨.inl fun _ => ⟨_, _, rfl⟩⟩
theorem zip_rep {K : Fg} {F : Hp} : ∀ {vs : List V} {xs : List α}, RepAll K F vs (xs.map E.enc) → (vs.zip (xs.map E.enc)) = (vs.zip xs).map fun p => (p.1, E.enc p.2)
  | [], _, _ => rfl
  | _ :: _, [], h => by cases h
  | v :: vs, x :: xs, h => by
    cases h with
    | cons h1 h2 =>
      show (v, E.enc x) :: vs.zip (xs.map E.enc) = (v, E.enc x) :: (vs.zip xs).map _
      rw [zip_rep h2]
theorem rep_zip {K : Fg} {F : Hp} : ∀ {vs : List V} {xs : List α}, RepAll K F vs (xs.map E.enc) → ∀ p ∈ vs.zip xs, Rep K F p.1 (E.enc p.2)
  | [], _, _, p, m => by simp at m
  | _ :: _, [], h, _, _ => by cases h
  | v :: vs, x :: xs, h, p, m => by
    cases h with
    | cons h1 h2 =>
      rcases List.mem_cons.mp m with rfl | m
      · exact h1
      · exact rep_zip h2 p m
theorem RepAll.of_pairs {K : Fg} {F : Hp} : ∀ (ps : List (V × α)), (∀ p ∈ ps, Rep K F p.1 (E.enc p.2)) → RepAll K F (ps.map Prod.fst) ((ps.map Prod.snd).map E.enc)
  | [], _ => .nil
  | p :: ps, h => .cons (h p List.mem_cons_self) (RepAll.of_pairs ps fun q m => h q (List.mem_cons_of_mem _ m))
theorem sort_pairs {K : Fg} {F : Hp} {lt : α → α → Bool} (od : Od E lt) {vs : List V} {xs : List α} (h : RepAll K F vs (xs.map E.enc)) :
    RepAll K F (((vs.zip (xs.map E.enc)).mergeSort (PySem.W.dataLe false Prod.snd)).map Prod.fst) ((sortB lt xs).map E.enc) := by
  have hl : vs.length = xs.length := by have := h.length; simpa using this
  have e0 : ((vs.zip xs).mergeSort fun p q => !lt q.2 p.2).map (fun p => (p.1, E.enc p.2)) = (vs.zip (xs.map E.enc)).mergeSort (PySem.W.dataLe false Prod.snd) := by
    rw [zip_rep h]
    refine PySem.W.sort_maps _ fun p _ q _ => ?_
    rw [PySem.W.dataLe_eq]
    show (!lt q.2 p.2) = !PySem.W.dataLt (E.enc q.2) (E.enc p.2)
    rw [od.lt]
  rw [← e0, List.map_map]
  have e1 : ((vs.zip xs).mergeSort fun p q => !lt q.2 p.2).map Prod.snd = sortB lt xs := by
    unfold sortB
    rw [PySem.W.sort_maps (s := fun x y => !lt y x) Prod.snd (fun p _ q _ => rfl), List.map_snd_zip (by omega)]
  rw [← e1]
  exact RepAll.of_pairs _ fun p m => rep_zip h p (List.mem_mergeSort.mp m)
theorem lx_sorted {lt : α → α → Bool} {n : Nat} {g : τ → List α} {f : (τ → P → Option Ω) → Option Ω} (hu : X.A.units + 64 < cLine) (od : Od E lt) (so : So E) (dt : Dt E n) (hv : LVw S (it E) g) (hm : X.mg "sorted" = none) (ha : LO X G env a S e' f) (hG : ∀ p, G (e' p)) (hn : n ≤ 60 := by decide) (hg : Gl X "sorted" := by rfl) (he : starEach (a :: []) X.env = (false, eval a X.env) :: starEach [] X.env := by rfl) (hpl : (backTo pos (starEach [] X.env)).any (·.1) = false := by rfl) :
    LX X env (.Call (.Name "sorted" np) [a] [] pos) (ls (it E)) e' (fun k => f fun x p => (some (sortB lt (g x))).bind fun y => k y p) :=
  lx_b1n (E := E) (g := fun x : τ => some (sortB lt (g x))) (cr_sortD hu) hm PyProof.Rows.boot_sorted ha hG (fun K F H fp v x y Q hK s hy r q => by
    subst hK
    cases hy
    obtain ⟨p, vs, fps, rfl, h1, h2⟩ := hv.view s r
    have rp := h2.zero.2
    have hd := dts dt (g x)
    refine ⟨p, vs, (g x).map E.enc, rfl, h1, rp.dp s hd.1, (od_all od (g x)).1, ?_, fun d m => by obtain ⟨y, _, rfl⟩ := List.mem_map.mp m; exact Nat.le_trans (dt.dep y) hn, fun t nt => q t _ nt (sort_pairs od rp)⟩
    rcases so.so with so | so
    · exact .inl fun d m => by obtain ⟨y, _, rfl⟩ := List.mem_map.mp m; exact so y
    · exact .inr fun d m => by obtain ⟨y, _, rfl⟩ := List.mem_map.mp m; exact so y) hg (by decide) (by decide) he hpl

/-! ### enumerate, zip -/
def enumL {α : Type} (xs : List α) : List (Int × α) := xs.zipIdx.map fun p => ((p.2 : Int), p.1)
theorem enumL_get {α : Type} (xs : List α) (i : Nat) : (enumL xs)[i]? = (xs[i]?).map fun x => ((i : Int), x) := by
  unfold enumL
  rw [List.getElem?_map, List.getElem?_zipIdx]
  cases xs[i]? <;> simp
theorem li_enum {f : (τ → P → Option Ω) → Option Ω} {g : τ → List α} {elts : List Expr} {kk : Nat} {tp p : Pos} (hg : Gl X "enumerate") (hm : X.mg "enumerate" = none) (hv : LVw S (it E) g) (h : LX X env a S e' f) (hs : starEach [a] X.env = [(false, eval a X.env)] := by rfl) (hs4 : starEach [a] X.env = (false, eval a X.env) :: starEach [] X.env := by rfl) :
    LI X env (.Tuple elts kk tp) (.Call (.Name "enumerate" p) [a] [] pos) (it (eT2 eI E)) e' (fun k => f fun x q => k (enumL (g x)) q) :=
  fun C F H σs es σ k ω R hK hl hr hk q => tI.of X (pi_enum hg hm (pa_cons (peC X) pa_nil hs4) hs) (h C F H σs es σ _ ω _ hK hl hr hk fun x p v F' H' hk' h' => by
    obtain ⟨v', fp, e1, r⟩ := h'.look (i := 0) rfl
    simp at e1; subst e1
    obtain ⟨p0, vs, fps, rfl, hs, ra⟩ := hv.view h'.sF r
    refine ⟨p0, vs, rfl, by rw [← hK]; exact hs, q (enumL (g x)) p (Ite X.K p0) F' H' [some (.ref p0)] [.st none τ S x] hk' h' ⟨rfl, fun i F2 H2 σ2 σb e2 eb hl2 h2 => ?_⟩⟩
    obtain ⟨v', fp', e1, r'⟩ := h2.look (i := e2.length + 0) (by rw [at_app _ rfl]; rfl)
    rw [at_app _ hl2] at e1
    simp at e1; subst e1
    obtain ⟨p1, ws, fps', e3, hs', ra'⟩ := hv.view h2.sF r'
    cases e3
    rw [hK] at hs'
    have rp := ra'.zero.2
    rw [enumL_get]
    refine ⟨fun y hy => ?_, fun hn => ?_⟩
    · cases hgi : (g x)[i]? with
      | none => rw [hgi] at hy; cases hy
      | some z =>
        rw [hgi] at hy
        cases hy
        obtain ⟨w, hw, rw'⟩ := rp.get (i := i) (d := E.enc z) (by rw [List.getElem?_map, hgi]; rfl)
        refine ⟨⟨ws, w, hs', hw⟩, fun v H' hy' => ?_⟩
        obtain ⟨T, w', rfl, nT, rfl, hy'⟩ := hy'
        have := hy' ws hs'
        rw [hw] at this; cases this
        refine ⟨upd F2 T (.tup [.int (i : Nat), w]), (h2.newF nT).pushSh ?_⟩
        exact .tup (SqT.of upd_same) (.cons (.int _) (.cons (rw'.mono (same_new (h2.fnone nT))) .nil))
    · refine ⟨ws, hs', ?_⟩
      have := rp.length
      simp at this
      cases hgi : (g x)[i]? with
      | none => have := List.getElem?_eq_none_iff.mp hgi; omega
      | some z => rw [hgi] at hn; cases hn)
theorem li_zip {fa : (τ1 → P1 → Option Ω) → Option Ω} {fb : P1 → (τ2 → P2 → Option Ω) → Option Ω} {g2 : τ2 → List β} {elts : List Expr} {kk : Nat} {tp p : Pos} (hg : Gl X "zip") (hm : X.mg "zip" = none) (hv : LVw S1 (it E) g1) (hv2 : LVw S2 (it Eb) g2) (h : LX X env a S1 e1 fa) (h2 : ∀ p1, LX X (e1 p1) b S2 (e2 p1) (fb p1))
    (hs : starEach [a, b] X.env = (false, eval a X.env) :: starEach [b] X.env := by rfl) (hs4 : starEach [b] X.env = (false, eval b X.env) :: starEach [] X.env := by rfl) (hpl : (backTo pos (starEach [b] X.env)).any (·.1) = false := by rfl) :
    LI X env (.Tuple elts kk tp) (.Call (.Name "zip" p) [a, b] [] pos) (it (eT2 E Eb)) (fun q : P1 × P2 => e2 q.1 q.2) (fun k => fa fun x p1 => fb p1 fun y p2 => k ((g1 x).zip (g2 y)) (p1, p2)) :=
  fun C F H σs es σ k ω R hK hl hr hk q => tI.of X (pi_zip hg hm (pa_cons (peC X) (pa_cons (peC X) pa_nil hs4) hs) hs hpl) (h C F H σs es σ _ ω _ hK hl hr hk fun x p1 v F1 H1 hk1 h1 =>
    h2 p1 C F1 H1 (some v :: σs) (.st none τ1 S1 x :: es) σ _ ω _ hK (by simp [hl]) h1 hk1 fun y p2 u F' H' hk' h' => by
      have h'' : ER C F' H' ([some u, some v] ++ (σs ++ σ)) ([.st none τ2 S2 y, .st none τ1 S1 x] ++ (es ++ e2 p1 p2)) := h'
      obtain ⟨u', fq, eq1, rq⟩ := h''.look (i := 0) rfl
      simp at eq1; subst eq1
      obtain ⟨v', fp, ev1, rv⟩ := h''.look (i := 1) rfl
      simp at ev1; subst ev1
      obtain ⟨pb, ws, fqs, rfl, hsb, rb⟩ := hv2.view h''.sF rq
      obtain ⟨pa, vs, fps, rfl, hsa, ra⟩ := hv.view h''.sF rv
      refine ⟨pa, pb, vs, ws, rfl, by rw [← hK]; exact hsa, by rw [← hK]; exact hsb, q ((g1 x).zip (g2 y)) (p1, p2) (Itz X.K pa pb) F' H' [some (.ref pb), some (.ref pa)] [.st none τ2 S2 y, .st none τ1 S1 x] hk' h'' ⟨rfl, fun i F2 H2 σ2 σb e2' eb hl2 h3 => ?_⟩⟩
      obtain ⟨u', fq', eq1, rq'⟩ := h3.look (i := e2'.length + 0) (by rw [at_app _ rfl]; rfl)
      rw [at_app _ hl2] at eq1
      simp at eq1; subst eq1
      obtain ⟨v', fp', ev1, rv'⟩ := h3.look (i := e2'.length + 1) (by rw [at_app _ rfl]; rfl)
      rw [at_app _ hl2] at ev1
      simp at ev1; subst ev1
      obtain ⟨pb', ws', fqs', e5, hsb', rb'⟩ := hv2.view h3.sF rq'
      obtain ⟨pa', vs', fps', e6, hsa', ra'⟩ := hv.view h3.sF rv'
      cases e5; cases e6
      rw [hK] at hsb' hsa'
      have rpb := rb'.zero.2
      have rpa := ra'.zero.2
      have lb := rpb.length
      have la := rpa.length
      simp at lb la
      refine ⟨fun z hz => ?_, fun hn => ?_⟩
      · rw [List.getElem?_zip_eq_some] at hz
        obtain ⟨hz1, hz2⟩ := hz
        obtain ⟨w1, hw1, rw1⟩ := rpa.get (i := i) (d := E.enc z.1) (by rw [List.getElem?_map, hz1]; rfl)
        obtain ⟨w2, hw2, rw2⟩ := rpb.get (i := i) (d := Eb.enc z.2) (by rw [List.getElem?_map, hz2]; rfl)
        refine ⟨⟨vs', ws', w1, w2, hsa', hsb', hw1, hw2⟩, fun v H' hy' => ?_⟩
        obtain ⟨T, x1, x2, rfl, nT, rfl, hy1, hy2⟩ := hy'
        have t1 := hy1 vs' hsa'
        have t2 := hy2 ws' hsb'
        rw [hw1] at t1; cases t1
        rw [hw2] at t2; cases t2
        refine ⟨upd F2 T (.tup [w1, w2]), (h3.newF nT).pushSh ?_⟩
        have sm := same_new (u := HO.tup [w1, w2]) (h3.fnone nT)
        exact .tup (SqT.of upd_same) (.cons (rw1.mono sm) (.cons (rw2.mono sm) .nil))
      · refine ⟨vs', ws', hsa', hsb', ?_⟩
        have := List.getElem?_eq_none_iff.mp hn
        rw [List.length_zip] at this
        omega)
end
section
variable {X : Cx} {R I Ω : Type} {SR : Stor R} {envR : I → Env} {kr : R → I → Option Ω} {bk ct : Lp Ω} {env : Env} {nm : Str} {pos : Pos} {e : Expr} {rest : List Stmt} {P : Type} {τ α : Type} {S : Stor τ} {E : Enc α} {e' : P → Env} {J : Type} {envJ : J → Env} {g : τ → List α}
/-- x.extend(ys), x a list of one's own -/
theorem lb_ext {f : (τ → P → Option Ω) → Option Ω} {fr : τ → P → (J → Option Ω) → Option Ω} {w : Option V} {x0 : List α} {xs : P → List α} {ap cp np : Pos} (i : Nat) (h0 : env[i]? = some (.st w (List α) (ls (it E)) x0)) (hvw : LVm S (it E) g)
    (he : LX X env e S e' f) (h1 : ∀ p, (e' p)[i]? = some (.st w (List α) (ls (it E)) (xs p))) (hr : ∀ y p, LB X SR envR kr bk ct ((e' p).set i (.st w (List α) (ls (it E)) (xs p ++ g y))) rest envJ (fr y p))
    (hN : X.N[i]? = some nm := by rfl) (hv : Vis X.env.scope nm := by first | exact Or.inl rfl | exact Or.inr (Or.inl rfl) | exact Or.inr (Or.inr rfl))
    (hd : (nm == ("__debug__" : Str)) = false := by decide) (hcd : (nm == ("__classdict__" : Str)) = false := by decide)
    (hbase : attributeBase (.Name nm np) "extend" X.env (eval (.Name nm np) X.env) = eval (.Name nm np) X.env := by rfl)
    (hfew : ((backTo cp (starEach [e] X.env)).all (fun x => !x.1) && (backToKw cp (keywordEach [] X.env)).all (fun x => x.1.isSome) && decide ([e].length + ([] : List Keyword).length + (if ([] : List Keyword).isEmpty then 0 else 1) < 30)) = true := by rfl)
    (hline : (ap.endLine == cp.line) = true := by rfl) (hse : starEach [e] X.env = (false, eval e X.env) :: starEach [] X.env := by rfl) (hplain : (backTo cp (starEach [] X.env)).any (·.1) = false := by rfl)
    (hsw : swapsWith (.Call (.Attribute (.Name nm np) "extend" ap) [e] [] cp) none pos.line X.env = pure false := by rfl) :
    LB X SR envR kr bk ct env (.Expr (.Call (.Attribute (.Name nm np) "extend" ap) [e] [] cp) pos :: rest) envJ (fun kn => f fun y p => ck (decide ((xs p).length + (g y).length ≤ SZ)) (fr y p kn)) :=
  fun C F H σs es σ kn ω D hK hl h hk qn qb qc qr => tSs.of X (pss_cons (ps_expr (pe_bm PySem.F.plainAttrs_list PySem.F.slot_list_extend PySem.F.type_list_extend mt_extend (pe_var hN hv hd hcd) (pa_cons (peC X) pa_nil hse) hbase hfew hline hse hplain) hsw) (pssC X)) (by
    obtain ⟨l, fp, e1, r⟩ := h.lookF hl h0
    obtain ⟨q0, vs0, fps0, rfl, hq0, _, _⟩ := r
    refine ⟨_, e1, .inl ⟨rfl, vs0, SqL.of hq0⟩, he C F H σs es σ _ ω _ hK hl h hk fun y p v F' H' hk' h' => ?_⟩
    obtain ⟨hc, hk'⟩ := ck_some hk'
    have hc' := of_decide_eq_true hc
    obtain ⟨v', fpy, ey, ry⟩ := h'.look (i := 0) rfl
    simp at ey; subst ey
    obtain ⟨pb, zs, fps, rfl, hb, rb⟩ := hvw.view h'.sF ry
    have rpb := rb.zero.2
    obtain ⟨l', fp', e4, r1, nd, ow, fin⟩ := (ER.pop h').mut (i := es.length + i) (by rw [at_app _ rfl]; exact h1 p)
    rw [at_app _ hl, e1] at e4
    cases e4
    obtain ⟨q1, vs, fps', e5, hq, ra, rfl⟩ := r1
    cases e5
    obtain ⟨rfl, rp⟩ := ra.zero
    have n1 : vs.length = (xs p).length := by have := rp.length; simpa using this
    have n2 : zs.length = (g y).length := by have := rpb.length; simpa using this
    refine ⟨q0, pb, vs, zs, rfl, rfl, hq, hb, by rw [SZ_eq]; omega, ?_⟩
    have fin' := fin (List α) (ls (it E)) (xs p ++ g y) (upd H' q0 (.lst (vs ++ zs))) [q0] (fun a na _ => upd_ne fun z => na (by rw [z]; simp)) (fun a m => ?_) ⟨q0, vs ++ zs, [], rfl, upd_same, ?_, rfl⟩ (by simp) (fun a m => ?_)
    · rw [List.set_append_right _ _ (Nat.le_add_right _ _), Nat.add_sub_cancel_left] at fin'
      exact hr y p C F' _ σs es σ kn ω D hK hl fin' hk' qn qb qc qr
    · by_cases z : a = q0
      · subst z; rw [upd_same]; exact fun z => by cases z
      · rw [upd_ne z]; exact m
    · have := rp.app rpb
      rw [← List.map_append] at this
      exact this.zero
    · simp at m; subst m
      exact ⟨by rw [upd_same]; exact (fun z => by cases z), .inl (by simp)⟩)
end
/-! ### the script; the last step -/
theorem lv_scr : LVw scr (it eI) id := ⟨fun {K F H fp v x} s r => by
  obtain ⟨_, a, rfl, q⟩ := r
  exact ⟨a, _, [], rfl, s.seq q, (RepAll.ofInts x).zero⟩⟩
theorem lb_use {X : Cx} {R I Ω J : Type} {SR : Stor R} {envR : I → Env} {kr : R → I → Option Ω} {bk ct : Lp Ω} {env : Env} {sts : List Stmt} {envJ : J → Env} {f f' : (J → Option Ω) → Option Ω} (h : LB X SR envR kr bk ct env sts envJ f) (e : f = f') : LB X SR envR kr bk ct env sts envJ f' := e ▸ h
theorem lx_use {X : Cx} {Ω P τ : Type} {S : Stor τ} {env : Env} {e : Expr} {env' : P → Env} {f f' : (τ → P → Option Ω) → Option Ω} (h : LX X env e S env' f) (q : f = f') : LX X env e S env' f' := q ▸ h
end Z

set_option Elab.async false
set_option linter.all false
set_option maxRecDepth 100000
namespace Z
open PySem PySem.Spec PyProof.Rows L2

/-! ### a state [n, cells]: a list that holds an int and a list of ints of its own -/
abbrev TSt := Int × List Int
def stT : Stor TSt where
  rel := fun _ _ H fp v t => ∃ p q, v = .ref p ∧ H p = some (.lst [.int t.1, .ref q]) ∧ H q = some (.lst (t.2.map V.int)) ∧ fp = [p, q]
  monoF := fun _ h => h
  frame := fun f h => by
    obtain ⟨p, q, rfl, h1, h2, rfl⟩ := h
    exact ⟨p, q, rfl, by rw [f p (by simp)]; exact h1, by rw [f q (by simp)]; exact h2, rfl⟩
/-- the same without the list: it stands at q -/
def stA (q : Addr) : Stor Int where
  rel := fun _ _ H fp v n => ∃ p, v = .ref p ∧ H p = some (.lst [.int n, .ref q]) ∧ fp = [p]
  monoF := fun _ h => h
  frame := fun f h => by
    obtain ⟨p, rfl, h1, rfl⟩ := h
    exact ⟨p, rfl, by rw [f p (by simp)]; exact h1, rfl⟩
section
variable {C : Ck} {F H : Hp} {σ : List (Option V)} {env : Env}
/-- the list of a state under a name of its own -/
theorem ER.split {i j : Nat} {w : V} {t : TSt} (h : ER C F H σ env) (e : env[i]? = some (.st (some w) TSt stT t)) (ej : env[j]? = some .un) : ∃ p q, σ[i]? = some (some (.ref p)) ∧ H p = some (.lst [.int t.1, .ref q]) ∧
    ER C F H (σ.set j (some (.ref q))) ((env.set i (.st (some w) Int (stA q) t.1)).set j (.st (some (.ref q)) (List Int) (ls (it eI)) t.2)) := by
  obtain ⟨fp, k⟩ := h.sl
  have hi := lt_of_get e
  have hj := lt_of_get ej
  have ne : i ≠ j := fun z => by subst z; rw [e] at ej; cases ej
  obtain ⟨v, e1, ⟨p, q, rfl, h1, h2, hf⟩, e2, k2⟩ := k.ok i _ e
  have e1' : σ[i]? = some (some (.ref p)) := by
    cases z : σ[i]? with
    | none => rw [z] at e1; cases e1
    | some o => rw [z] at e1; exact congrArg some e1
  have own := k.own i hi
  have nd := k.nd i hi
  rw [hf] at own nd k2
  have hpq : p ≠ q := by simpa using nd
  have mem : ∀ a, (a = p ∨ a = q) → a ∈ fp i := fun a m => by rw [hf]; simpa using m
  refine ⟨p, q, e1', h1, h.sB, h.sF, h.gr, h.up, by simp [h.len], fun l => if l = i then [p] else if l = j then [q] else fp l, fun l s el => ?_, fun l hl a ha => ?_, fun l m hl hm a ha hb => ?_, fun l hl => ?_⟩
  · by_cases zj : l = j
    · subst zj
      rw [List.getElem?_set_self (by simpa using hj)] at el
      cases el
      simp only [if_neg (fun z : l = i => ne z.symm), if_pos]
      have hls : l < σ.length := by rw [h.len]; exact hj
      refine ⟨.ref q, by rw [List.getElem?_set_self hls]; rfl, ⟨q, t.2.map V.int, [], rfl, h2, (RepAll.ofInts t.2).zero, rfl⟩, rfl, fun a m => ?_⟩
      simp at m; subst m
      exact k2 a (by simp)
    · rw [List.getElem?_set_ne (fun z => zj z.symm)] at el
      by_cases zi : l = i
      · subst zi
        rw [List.getElem?_set_self hi] at el
        cases el
        simp only [if_pos]
        refine ⟨.ref p, by rw [List.getElem?_set_ne (fun z => zj z.symm)]; exact e1, ⟨p, rfl, h1, rfl⟩, e2, fun a m => ?_⟩
        simp at m; subst m
        exact k2 a (by simp)
      · rw [List.getElem?_set_ne (fun z => zi z.symm)] at el
        simp only [if_neg zi, if_neg zj]
        rw [List.getElem?_set_ne (fun z => zj z.symm)]
        exact k.ok l s el
  · have hl' : l < env.length := by simpa using hl
    by_cases zi : l = i
    · simp only [if_pos zi] at ha
      simp at ha; subst ha
      exact own a (by simp)
    · simp only [if_neg zi] at ha
      by_cases zj : l = j
      · simp only [if_pos zj] at ha
        simp at ha; subst ha
        exact own a (by simp)
      · simp only [if_neg zj] at ha
        exact k.own l hl' a ha
  · have hl' : l < env.length := by simpa using hl
    have hm' : m < env.length := by simpa using hm
    have cl : ∀ l, l < env.length → a ∈ (if l = i then [p] else if l = j then [q] else fp l) → (l = i ∧ a = p) ∨ (l = j ∧ a = q) ∨ (l ≠ i ∧ l ≠ j ∧ a ∈ fp l) := fun l hl ha => by
      by_cases zi : l = i
      · simp only [if_pos zi] at ha; simp at ha; exact .inl ⟨zi, ha⟩
      · simp only [if_neg zi] at ha
        by_cases zj : l = j
        · simp only [if_pos zj] at ha; simp at ha; exact .inr (.inl ⟨zj, ha⟩)
        · simp only [if_neg zj] at ha; exact .inr (.inr ⟨zi, zj, ha⟩)
    rcases cl l hl' ha with ⟨a1, a2⟩ | ⟨a1, a2⟩ | ⟨a1, a2, a3⟩
    · rcases cl m hm' hb with ⟨b1, b2⟩ | ⟨b1, b2⟩ | ⟨b1, b2, b3⟩
      · rw [a1, b1]
      · exact absurd (a2.symm.trans b2) hpq
      · exact absurd (k.sep m i hm' hi a b3 (mem a (.inl a2))) b1
    · rcases cl m hm' hb with ⟨b1, b2⟩ | ⟨b1, b2⟩ | ⟨b1, b2, b3⟩
      · exact absurd (b2.symm.trans a2) hpq
      · rw [a1, b1]
      · exact absurd (k.sep m i hm' hi a b3 (mem a (.inr a2))) b1
    · rcases cl m hm' hb with ⟨b1, b2⟩ | ⟨b1, b2⟩ | ⟨b1, b2, b3⟩
      · exact absurd (k.sep l i hl' hi a a3 (mem a (.inl b2))) a1
      · exact absurd (k.sep l i hl' hi a a3 (mem a (.inr b2))) a1
      · exact k.sep l m hl' hm' a a3 b3
  · have hl' : l < env.length := by simpa using hl
    by_cases zi : l = i
    · simp only [if_pos zi]; simp
    · simp only [if_neg zi]
      by_cases zj : l = j
      · simp only [if_pos zj]; simp
      · simp only [if_neg zj]; exact k.nd l hl'
/-- .. and together again -/
theorem ER.join {i j : Nat} {w : V} {q : Addr} {n : Int} {cs : List Int} (h : ER C F H σ env) (e : env[i]? = some (.st (some w) Int (stA q) n)) (ej : env[j]? = some (.st (some (.ref q)) (List Int) (ls (it eI)) cs)) :
    ER C F H σ ((env.set i (.st (some w) TSt stT (n, cs))).set j .un) := by
  obtain ⟨fp, k⟩ := h.sl
  have hi := lt_of_get e
  have hj := lt_of_get ej
  obtain ⟨v, e1, ⟨p, rfl, h1, hf⟩, e2, k2⟩ := k.ok i _ e
  obtain ⟨u, u1, ⟨q', vs, fps, rfl, h2, ra, hg⟩, u2, u3⟩ := k.ok j _ ej
  have hq : q' = q := by cases u2; rfl
  subst hq
  obtain ⟨rfl, rp⟩ := ra.zero
  have hv := rp.ints
  subst hv
  have ne : i ≠ j := fun z => by
    subst z
    rw [e1] at u1
    have e3 : p = q' := by
      have := Option.some.inj u1
      cases this; rfl
    subst e3
    rw [h1] at h2
    have e4 := Option.some.inj h2
    have e5 : [V.int n, V.ref p] = cs.map V.int := by injection e4
    cases cs with
    | nil => simp at e5
    | cons a cs => cases cs with
      | nil => simp at e5
      | cons b cs => simp at e5
  have ownp := k.own i hi p (by rw [hf]; simp)
  have ownq := k.own j hj q' (by rw [hg]; simp)
  have hpq : p ≠ q' := fun z => by
    subst z
    exact ne (k.sep i j hi hj p (by rw [hf]; simp) (by rw [hg]; simp))
  refine ⟨h.sB, h.sF, h.gr, h.up, by simp [h.len], fun l => if l = i then [p, q'] else if l = j then [] else fp l, fun l s el => ?_, fun l hl a ha => ?_, fun l m hl hm a ha hb => ?_, fun l hl => ?_⟩
  · by_cases zj : l = j
    · subst zj
      rw [List.getElem?_set_self (by simpa using hj)] at el
      cases el
      simp only [if_neg (fun z : l = i => ne z.symm), if_pos]
      rfl
    · rw [List.getElem?_set_ne (fun z => zj z.symm)] at el
      by_cases zi : l = i
      · subst zi
        rw [List.getElem?_set_self hi] at el
        cases el
        simp only [if_pos]
        refine ⟨.ref p, e1, ⟨p, q', rfl, h1, h2, rfl⟩, e2, fun a m => ?_⟩
        simp at m
        rcases m with rfl | rfl
        · exact k2 a (by rw [hf]; simp)
        · exact u3 a (by rw [hg]; simp)
      · rw [List.getElem?_set_ne (fun z => zi z.symm)] at el
        simp only [if_neg zi, if_neg zj]
        exact k.ok l s el
  · have hl' : l < env.length := by simpa using hl
    by_cases zi : l = i
    · simp only [if_pos zi] at ha
      simp at ha
      rcases ha with rfl | rfl
      · exact ownp
      · exact ownq
    · simp only [if_neg zi] at ha
      by_cases zj : l = j
      · simp [if_pos zj] at ha
      · simp only [if_neg zj] at ha
        exact k.own l hl' a ha
  · have hl' : l < env.length := by simpa using hl
    have hm' : m < env.length := by simpa using hm
    have cl : ∀ l, l < env.length → a ∈ (if l = i then [p, q'] else if l = j then [] else fp l) → (l = i ∧ (a ∈ fp i ∨ a ∈ fp j)) ∨ (l ≠ i ∧ l ≠ j ∧ a ∈ fp l) := fun l hl ha => by
      by_cases zi : l = i
      · simp only [if_pos zi] at ha; simp at ha
        refine .inl ⟨zi, ?_⟩
        rcases ha with rfl | rfl
        · exact .inl (by rw [hf]; simp)
        · exact .inr (by rw [hg]; simp)
      · simp only [if_neg zi] at ha
        by_cases zj : l = j
        · simp [if_pos zj] at ha
        · simp only [if_neg zj] at ha; exact .inr ⟨zi, zj, ha⟩
    rcases cl l hl' ha with ⟨a1, a2⟩ | ⟨a1, a2, a3⟩
    · rcases cl m hm' hb with ⟨b1, b2⟩ | ⟨b1, b2, b3⟩
      · rw [a1, b1]
      · rcases a2 with a2 | a2
        · exact absurd (k.sep m i hm' hi a b3 a2) b1
        · exact absurd (k.sep m j hm' hj a b3 a2) b2
    · rcases cl m hm' hb with ⟨b1, b2⟩ | ⟨b1, b2, b3⟩
      · rcases b2 with b2 | b2
        · exact absurd (k.sep l i hl' hi a a3 b2) a1
        · exact absurd (k.sep l j hl' hj a a3 b2) a2
      · exact k.sep l m hl' hm' a a3 b3
  · have hl' : l < env.length := by simpa using hl
    by_cases zi : l = i
    · simp only [if_pos zi]; simp [hpq]
    · simp only [if_neg zi]
      by_cases zj : l = j
      · simp [if_pos zj]
      · simp only [if_neg zj]; exact k.nd l hl'
/-- a new state of a number and a list -/
theorem ER.joinTop {p q : Addr} {n : Int} {cs : List Int} (h : ER C F H (some (.ref p) :: some (.ref q) :: σ) (.st none Int (stA q) n :: .st none (List Int) (ls (it eI)) cs :: env)) : ER C F H (some (.ref p) :: σ) (.st none TSt stT (n, cs) :: env) := by
  obtain ⟨fp, k⟩ := h.sl
  obtain ⟨v, e1, ⟨p', rfl, h1, hf⟩, k2⟩ := k.ok 0 _ rfl
  simp at e1; subst e1
  obtain ⟨u, u1, ⟨q', vs, fps, rfl, h2, ra, hg⟩, u3⟩ := k.ok 1 _ rfl
  simp at u1; subst u1
  obtain ⟨rfl, rp⟩ := ra.zero
  have hv := rp.ints
  subst hv
  have l0 : 0 < (Slot.st none Int (stA q) n :: Slot.st none (List Int) (ls (it eI)) cs :: env).length := by simp
  have l1 : 1 < (Slot.st none Int (stA q) n :: Slot.st none (List Int) (ls (it eI)) cs :: env).length := by simp
  have ownp := k.own 0 l0 p (by rw [hf]; simp)
  have ownq := k.own 1 l1 q (by rw [hg]; simp)
  have hpq : p ≠ q := fun z => by
    subst z
    have := k.sep 0 1 l0 l1 p (by rw [hf]; simp) (by rw [hg]; simp)
    omega
  have hp := h.pop.pop
  refine ⟨hp.sB, hp.sF, hp.gr, hp.up, by simp [hp.len], _, Fps.push (fp := fun l => fp (l + 2)) ⟨fun l s el => ?_, fun l hl a ha => ?_, fun l m hl hm a ha hb => ?_, fun l hl => ?_⟩ (fq := [p, q]) ⟨_, rfl, ⟨p, q, rfl, h1, h2, rfl⟩, fun a m => ?_⟩ (fun a m => ?_) (by simp [hpq]) fun l hl a ha m => ?_⟩
  · have := k.ok (l + 2) s (by simpa using el)
    simpa using this
  · exact k.own (l + 2) (by simpa using hl) a ha
  · have := k.sep (l + 2) (m + 2) (by simpa using hl) (by simpa using hm) a ha hb
    omega
  · exact k.nd (l + 2) (by simpa using hl)
  · simp at m
    rcases m with rfl | rfl
    · exact k2 a (by rw [hf]; simp)
    · exact u3 a (by rw [hg]; simp)
  · simp at m
    rcases m with rfl | rfl
    · exact ownp
    · exact ownq
  · simp at m
    rcases m with rfl | rfl
    · have := k.sep (l + 2) 0 (by simpa using hl) l0 a ha (by rw [hf]; simp); omega
    · have := k.sep (l + 2) 1 (by simpa using hl) l1 a ha (by rw [hg]; simp); omega
end
section
variable {X : Cx} {R I Ω : Type} {SR : Stor R} {envR : I → Env} {kr : R → I → Option Ω} {bk ct : Lp Ω} {env : Env} {nm nm2 : Str} {pos : Pos} {a b e : Expr} {rest : List Stmt} {P P1 P2 : Type} {J : Type} {envJ : J → Env} {e' : P → Env} {e1 : P1 → Env} {e2 : P1 → P2 → Env}
/-- cells = state[1] -/
theorem lb_alias {f : (J → Option Ω) → Option Ω} {w : V} {t : TSt} {p1 p2 cp sp : Pos} {k : Nat} (i j : Nat) (hN : X.N.Nodup) (he : env[i]? = some (.st (some w) TSt stT t)) (hj : env[j]? = some .un)
    (hr : ∀ q, LB X SR envR kr bk ct ((env.set i (.st (some w) Int (stA q) t.1)).set j (.st (some (.ref q)) (List Int) (ls (it eI)) t.2)) rest envJ f)
    (hi : X.N[i]? = some nm := by rfl) (hv_nm : Vis X.env.scope nm := by first | exact Or.inl rfl | exact Or.inr (Or.inl rfl) | exact Or.inr (Or.inr rfl)) (hd : (nm == ("__debug__" : Str)) = false := by decide) (hcd : (nm == ("__classdict__" : Str)) = false := by decide)
    (hi2 : X.N[j]? = some nm2 := by rfl) (hx : Loc X.env.scope nm2 := by first | exact Or.inl rfl | exact Or.inr rfl) (hf : X.fn nm2 = true ∨ X.env.scope.names.lookup nm2 = some .local := by first | exact .inl rfl | exact .inr rfl)
    (hs : swapsWith (.Subscript (.Name nm p1) (.Constant (.int 1) k cp) sp) (some (.Name nm2 p2)) pos.line X.env = pure false := by rfl) :
    LB X SR envR kr bk ct env (.Assign [.Name nm2 p2] (.Subscript (.Name nm p1) (.Constant (.int 1) k cp) sp) pos :: rest) envJ f :=
  fun C F H σs es σ kn ω D hK hl h hk qn qb qc qr => tSs.of X (pss_cons (ps_set hN hi2 hx (pe_ix ix_list (pe_var hi hv_nm hd hcd) pe_int fun _ _ => rfl) hs hf) (pssC X)) (by
    obtain ⟨p, q, s1, h1, h2⟩ := h.split (i := es.length + i) (j := es.length + j) (by rw [at_app _ rfl]; exact he) (by rw [at_app _ rfl]; exact hj)
    rw [at_app _ hl] at s1
    rw [← hl, List.set_append_right _ _ (Nat.le_add_right _ _), Nat.add_sub_cancel_left, hl, List.set_append_right _ _ (Nat.le_add_right _ _), Nat.add_sub_cancel_left, List.set_append_right _ _ (Nat.le_add_right _ _), Nat.add_sub_cancel_left] at h2
    exact ⟨_, s1, p, [.int t.1, .ref q], 1, .ref q, rfl, rfl, SqL.of h1, rfl, hr q C F H σs es _ kn ω D hK hl h2 hk qn qb qc qr⟩)
/-- the list is the state's again -/
theorem lb_join {sts : List Stmt} {f : (J → Option Ω) → Option Ω} {w : V} {q : Addr} {n : Int} {cs : List Int} (i j : Nat) (he : env[i]? = some (.st (some w) Int (stA q) n)) (hj : env[j]? = some (.st (some (.ref q)) (List Int) (ls (it eI)) cs))
    (hr : LB X SR envR kr bk ct ((env.set i (.st (some w) TSt stT (n, cs))).set j .un) sts envJ f) : LB X SR envR kr bk ct env sts envJ f :=
  fun C F H σs es σ kn ω D hK hl h hk qn qb qc qr => by
    have h2 := h.join (i := es.length + i) (j := es.length + j) (by rw [at_app _ rfl]; exact he) (by rw [at_app _ rfl]; exact hj)
    rw [List.set_append_right _ _ (Nat.le_add_right _ _), Nat.add_sub_cancel_left, List.set_append_right _ _ (Nat.le_add_right _ _), Nat.add_sub_cancel_left] at h2
    exact hr C F H σs es σ kn ω D hK hl h2 hk qn qb qc qr
/-- state[0] -/
theorem lx_st0 {w : Option V} {q : Addr} {n : Int} {p1 cp sp : Pos} {k : Nat} (i : Nat) (he : env[i]? = some (.st w Int (stA q) n)) (hi : X.N[i]? = some nm := by rfl) (hv_nm : Vis X.env.scope nm := by first | exact Or.inl rfl | exact Or.inr (Or.inl rfl) | exact Or.inr (Or.inr rfl)) (hd : (nm == ("__debug__" : Str)) = false := by decide) (hcd : (nm == ("__classdict__" : Str)) = false := by decide) :
    LX X env (.Subscript (.Name nm p1) (.Constant (.int 0) k cp) sp) (it eI) (fun _ : Unit => env) (fun (k : Int → Unit → Option Ω) => k n ()) :=
  fun C F H σs es σ k ω Q hK hl h hk q => tE.of X (pe_ix ix_list (pe_var hi hv_nm hd hcd) pe_int fun _ _ => rfl) (by
    obtain ⟨v, fp, e1, p, rfl, h1, _⟩ := h.lookF hl he
    exact ⟨_, e1, p, _, 0, .int n, rfl, rfl, SqL.of h1, rfl, q n () _ F H hk (h.pushSh (.int n))⟩)
/-- state[0] = e -/
theorem lb_st0 {f : (Int → P → Option Ω) → Option Ω} {fr : Int → P → (J → Option Ω) → Option Ω} {w : Option V} {q : Addr} {n : P → Int} {p1 cp sp : Pos} {k : Nat} (i : Nat) (he : LX X env e (it eI) e' f) (h1 : ∀ p, (e' p)[i]? = some (.st w Int (stA q) (n p)))
    (hr : ∀ y p, LB X SR envR kr bk ct ((e' p).set i (.st w Int (stA q) y)) rest envJ (fr y p)) (hi : X.N[i]? = some nm := by rfl) (hv_nm : Vis X.env.scope nm := by first | exact Or.inl rfl | exact Or.inr (Or.inl rfl) | exact Or.inr (Or.inr rfl)) (hd : (nm == ("__debug__" : Str)) = false := by decide) (hcd : (nm == ("__classdict__" : Str)) = false := by decide)
    (ha : ∀ v, assign (.Subscript (.Name nm p1) (.Constant (.int 0) k cp) sp) X.env v = (do
      let ov ← holding [v] (eval (.Name nm p1) X.env)
      let iv ← holding [v, ov] (eval (.Constant (.int 0) k cp) X.env)
      standAt sp
      holding [v, ov, iv] (setItem ov iv v)
      release [v, ov, iv] []) := by intro _; rfl)
    (hs : swapsWithSole [.Subscript (.Name nm p1) (.Constant (.int 0) k cp) sp] e pos.line X.env = pure false := by rfl) (hw : swappedStores [.Subscript (.Name nm p1) (.Constant (.int 0) k cp) sp] e X.env = pure none := by rfl) (ha1 : (assignEach [.Subscript (.Name nm p1) (.Constant (.int 0) k cp) sp] X.env).map (·.2) = [assign (.Subscript (.Name nm p1) (.Constant (.int 0) k cp) sp) X.env] := by rfl) :
    LB X SR envR kr bk ct env (.Assign [.Subscript (.Name nm p1) (.Constant (.int 0) k cp) sp] e pos :: rest) envJ (fun kn => f fun y p => fr y p kn) :=
  fun C F H σs es σ kn ω D hK hl h hk qn qb qc qr => tSs.of X (pss_cons (ps_asg (peC X) (pg_sub (pe_var hi hv_nm hd hcd) pe_int set_list ha) hs hw ha1) (pssC X)) (he C F H σs es σ _ ω _ hK hl h hk fun y p v F' H' hk' h' => by
    have hvy : v = .int y := by
      obtain ⟨v', fp, e1, r⟩ := h'.look (i := 0) rfl
      simp at e1; subst e1
      obtain ⟨_, r⟩ := r
      cases r; rfl
    subst hvy
    obtain ⟨l, fp, e1, r1, nd, ow, fin⟩ := (ER.pop h').mut (i := es.length + i) (by rw [at_app _ rfl]; exact h1 p)
    rw [at_app _ hl] at e1
    obtain ⟨p0, rfl, h2, rfl⟩ := r1
    refine ⟨_, e1, p0, _, 0, 0, rfl, rfl, h2, rfl, ?_⟩
    have fin' := fin Int (stA q) y (upd H' p0 (.lst [.int y, .ref q])) [p0] (fun a na _ => upd_ne fun z => na (by rw [z]; simp)) (fun a m => ?_) ⟨p0, rfl, upd_same, rfl⟩ (by simp) (fun a m => ?_)
    · rw [List.set_append_right _ _ (Nat.le_add_right _ _), Nat.add_sub_cancel_left] at fin'
      exact hr y p C F' _ σs es σ kn ω D hK hl fin' hk' qn qb qc qr
    · by_cases z : a = p0
      · subst z; rw [upd_same]; exact fun z => by cases z
      · rw [upd_ne z]; exact m
    · simp at m; subst m
      exact ⟨by rw [upd_same]; exact (fun z => by cases z), .inl (by simp)⟩)
/-- [n, cells] -/
theorem lx_st {fa : (Int → P1 → Option Ω) → Option Ω} {fb : P1 → (List Int → P2 → Option Ω) → Option Ω} (ha : LX X env a (it eI) e1 fa) (hb : ∀ p, LX X (e1 p) b (ls (it eI)) (e2 p) (fb p))
    (hs : starEach [a, b] X.env = (false, eval a X.env) :: starEach [b] X.env := by rfl) (hs2 : starEach [b] X.env = (false, eval b X.env) :: starEach [] X.env := by rfl) :
    LX X env (.List [a, b] pos) stT (fun p : P1 × P2 => e2 p.1 p.2) (fun k => fa fun x p1 => fb p1 fun y p2 => k (x, y) (p1, p2)) :=
  fun C F H σs es σ k ω Q hK hl h hk q => tE.of X (pe_lst (pa_cons (peC X) (pa_cons (peC X) pa_nil hs2) hs)) (ha C F H σs es σ _ ω _ hK hl h hk fun x p1 v F1 H1 hk1 h1 =>
    hb p1 C F1 H1 (some v :: σs) (.st none Int (it eI) x :: es) σ _ ω _ hK (by simp [hl]) h1 hk1 fun y p2 u F2 H2 hk2 h2 => by
      have hvx : v = .int x := by
        obtain ⟨v', fp, e1, r⟩ := h2.look (i := 1) rfl
        simp at e1; subst e1
        obtain ⟨_, r⟩ := r
        cases r; rfl
      subst hvx
      obtain ⟨u', fp, e1, q0, vs, fps, rfl, hq, _, _⟩ := h2.look (i := 0) rfl
      simp at e1; subst e1
      refine ⟨by show 2 ≤ sizeLine; rw [SZ_eq]; decide, fun t nt => ?_⟩
      have z2 : ER C F2 H2 ([some (.ref q0)] ++ some (.int x) :: (σs ++ σ)) ([.st none (List Int) (ls (it eI)) y] ++ .st none Int (it eI) x :: (es ++ e2 p1 p2)) := h2
      have h3 : ER C F2 H2 (some (.ref q0) :: (σs ++ σ)) (.st none (List Int) (ls (it eI)) y :: (es ++ e2 p1 p2)) := ER.pop (ER.rot z2 rfl)
      have h4 := h3.newOw (S := stA q0) (x := x) (v := .ref t) nt ⟨t, rfl, upd_same, rfl⟩
      exact q (x, y) (p1, p2) (.ref t) F2 _ hk2 h4.joinTop)
/-- x, y = a, b -/
theorem lb_par {τ1 τ2 : Type} {S1 : Stor τ1} {S2 : Stor τ2} {f : ((τ1 × τ2 × Unit) → P → Option Ω) → Option Ω} {fr : τ1 → τ2 → P → (J → Option Ω) → Option Ω} {px py pt : Pos} {kt k2 : Nat} {pt2 : Pos} (i j : Nat) (hN : X.N.Nodup) (hc : X.calm = true) (ha : LA X env [a, b] (fun p : τ1 × τ2 × Unit => [.st none τ1 S1 p.1, .st none τ2 S2 p.2.1]) e' f)
    (hr : ∀ x y p, LB X SR envR kr bk ct (((e' p).set i (.st none τ1 S1 x)).set j (.st none τ2 S2 y)) rest envJ (fr x y p))
    (hi : X.N[i]? = some nm := by rfl) (hj : X.N[j]? = some nm2 := by rfl) (hij : i ≠ j := by decide) (hx : X.env.scope.names.lookup nm = some .local := by rfl) (hy : X.env.scope.names.lookup nm2 = some .local := by rfl)
    (hli : ∀ p, i < (e' p).length := by exact (fun _ => Nat.lt_of_sub_eq_succ rfl)) (hlj : ∀ p, j < (e' p).length := by exact (fun _ => Nat.lt_of_sub_eq_succ rfl))
    (hw : swappedStores [.Tuple [.Name nm px, .Name nm2 py] kt pt] (.Tuple [a, b] k2 pt2) X.env = pure (some [nm, nm2]) := by rfl)
    (hs : swapsWithSole [.Tuple [.Name nm px, .Name nm2 py] kt pt] (.Tuple [a, b] k2 pt2) pos.line X.env = pure false := by rfl) :
    LB X SR envR kr bk ct env (.Assign [.Tuple [.Name nm px, .Name nm2 py] kt pt] (.Tuple [a, b] k2 pt2) pos :: rest) envJ (fun kn => f fun r p => fr r.1 r.2.1 p kn) :=
  fun C F H σs es σ kn ω D hK hl h hk qn qb qc qr => tSs.of X (pss_cons (ps_par hc hN hi hj hij hx hy (paC X) hw hs) (pssC X)) (ha C F H σs es σ _ ω _ hK hl h hk fun r p vs F' H' hk' hv h' => by
    match vs, hv with
    | [v, u], _ =>
      refine ⟨v, u, rfl, ?_⟩
      have h2 := ER.asg (σs := some u :: σs) (es := .st none τ2 S2 r.2.1 :: es) (σ := σ) (env := e' p) h' (by simp [hl]) (hli p)
      have h3 := ER.asg (σs := σs) (es := es) (σ := σ.set i (some v)) h2 hl (by simpa using hlj p)
      exact hr r.1 r.2.1 p C F' H' σs es _ kn ω D hK hl h3 hk' qn qb qc qr)
/-- from a law's call to its def's promise -/
theorem law_sp {K : Fg} {H : Hp} {a : Addr} {ns : List Int} {m : List Int × Unit → Option Bool} {Q : VK} {E : XK} (hS : SqL K H a (ns.map V.int)) (hm : m (ns, ()) = some true) (q : ∀ H', Q (.bl true) H') :
    spP K (fun a : List Int × Unit => [.st none (List Int) scr a.1]) (it eB) m [.ref a] H Q E := by
  refine ⟨H, H, (ns, ()), true, hm, rfl, ⟨fun _ _ e => e, fun _ _ e => e, fun _ m => .inl m, fun _ m => m, rfl, fun _ => [], fun i s e => ?_, fun i hi a ha => (nomatch ha), fun i j _ _ a ha => (nomatch ha), fun i _ => List.nodup_nil⟩, fun F' H' v h => ?_⟩
  · match i, e with
    | 0, e =>
      cases e
      exact ⟨_, rfl, ⟨rfl, a, rfl, hS⟩, fun _ m => nomatch m⟩
    | i + 1, e => simp at e
  · have hv : v = .bl true := by
      obtain ⟨v', fp, e1, r⟩ := h.look (i := 0) rfl
      simp at e1; subst e1
      obtain ⟨_, r⟩ := r
      cases r; rfl
    rw [hv]; exact q H'
end
end Z

set_option Elab.async false
set_option linter.all false
set_option maxRecDepth 100000
namespace Z
open PySem PySem.Spec PyProof.Rows L2

/-! ### the mirrors in plain words -/
section
variable {α β S Ω : Type}
theorem ixN_nat {n i : Nat} (h : i < n) : ixN n (i : Int) = some i := by
  unfold ixN
  rw [if_pos (by omega), if_pos (by omega), Int.toNat_natCast]
theorem atI_nat {xs : List α} {i : Nat} (h : i < xs.length) : atI xs (i : Int) = some xs[i] := by
  unfold atI
  rw [ixN_nat h]
  exact List.getElem?_eq_getElem h
theorem atI_pos {xs : List α} {i : Int} (h0 : 0 ≤ i) (h1 : i < xs.length) : ∃ (k : Nat) (h : k < xs.length), i = k ∧ atI xs i = some xs[k] :=
  by
  obtain ⟨k, rfl⟩ := Int.eq_ofNat_of_zero_le h0
  exact ⟨k, by omega, rfl, atI_nat (by omega)⟩
theorem rangeL_nat (n : Nat) : rangeL 0 (n : Int) = (List.range n).map fun i : Nat => ((i : Nat) : Int) := by
  unfold rangeL
  simp
theorem mem_rangeL {n : Nat} {x : Int} : x ∈ rangeL 0 (n : Int) ↔ ∃ i : Nat, i < n ∧ x = i := by
  rw [rangeL_nat]
  simp only [List.mem_map, List.mem_range]
  exact ⟨fun ⟨i, h, e⟩ => ⟨i, h, e.symm⟩, fun ⟨i, h, e⟩ => ⟨i, h, e.symm⟩⟩
theorem rgOk_nat {n : Nat} (h : n < 2 ^ 62) : rgOk 0 (n : Int) = true := by
  unfold rgOk
  have h2 : (n : Int) < 2 ^ 62 := by exact_mod_cast h
  exact decide_eq_true ⟨by decide, by decide, by omega, h2⟩
theorem mulOk_l {i j : Int} (h0 : 0 ≤ i) (h : i < 2 ^ 64) : mulOk i j = true := decide_eq_true (.inl ⟨by omega, h⟩)
theorem mulOk_r {i j : Int} (h0 : 0 ≤ j) (h : j < 2 ^ 64) : mulOk i j = true := decide_eq_true (.inr ⟨by omega, h⟩)
theorem divOk_pos {j : Int} (h0 : 0 < j) (h : j < 1073741824) : divOk j = true := decide_eq_true ⟨by omega, by omega⟩
theorem modOk_pos {j : Int} (h0 : 0 < j) : modOk j = true := decide_eq_true (by omega)
theorem ck_wp {b : Bool} {k : Option Ω} {ω : Ω} (h : b = true) (hk : k = some ω) : ck b k = some ω := by rw [h]; exact hk
theorem bind_wp {o : Option α} {k : α → Option Ω} {ω : Ω} {a : α} (h : o = some a) (hk : k a = some ω) : o.bind k = some ω := by rw [h]; exact hk
/-- a for, by an invariant over the turns -/
theorem forO_wpN {ω : Ω} (Inv : Nat → S → Prop) {b : α → S → (S → Option Ω) → Option Ω} {k : S → Option Ω} : ∀ (xs : List α) (n : Nat) (s : S), Inv n s →
    (∀ i s x, xs[i]? = some x → Inv (n + i) s → ∀ kc : S → Option Ω, (∀ s', Inv (n + i + 1) s' → kc s' = some ω) → b x s kc = some ω) → (∀ s, Inv (n + xs.length) s → k s = some ω) → forO xs s b k = some ω
  | [], n, s, h0, _, he => he s h0
  | x :: xs, n, s, h0, hs, he => hs 0 s x rfl h0 _ fun s' h' => forO_wpN Inv xs (n + 1) s' h'
      (fun i s y e h kc hk => hs (i + 1) s y e (by rw [show n + (i + 1) = n + 1 + i by omega]; exact h) kc fun s' h' => hk s' (by rw [show n + 1 + i + 1 = n + (i + 1) + 1 by omega]; exact h'))
      fun s h => he s (by rw [show n + (x :: xs).length = n + 1 + xs.length by simp; omega]; exact h)
/-- .. by one that stays -/
theorem forO_wp {ω : Ω} (Inv : S → Prop) {b : α → S → (S → Option Ω) → Option Ω} {k : S → Option Ω} {xs : List α} {s : S} (h0 : Inv s)
    (hs : ∀ s x, x ∈ xs → Inv s → ∀ kc : S → Option Ω, (∀ s', Inv s' → kc s' = some ω) → b x s kc = some ω) (he : ∀ s, Inv s → k s = some ω) : forO xs s b k = some ω :=
  forO_wpN (fun _ => Inv) xs 0 s h0 (fun i s x e h kc hk => hs s x (List.mem_of_getElem? e) h kc hk) he
theorem forO_fold (g : S → α → S) {b : α → S → (S → Option Ω) → Option Ω} {k : S → Option Ω} : ∀ (xs : List α) (s : S), (∀ x ∈ xs, ∀ s kc, b x s kc = kc (g s x)) → forO xs s b k = k (xs.foldl g s)
  | [], s, _ => rfl
  | x :: xs, s, h => (h x (List.mem_cons_self ..) s _).trans (forO_fold g xs (g s x) fun y m => h y (List.mem_cons_of_mem _ m))
/-- two walks that go alike: both end with one answer, or both go on -/
theorem forO_two {Pr : Ω → Prop} {b1 b2 : α → Unit → (Unit → Option Ω) → Option Ω} : ∀ (xs : List α), (∀ x ∈ xs, (∃ r, Pr r ∧ ∀ k1 k2, b1 x () k1 = some r ∧ b2 x () k2 = some r) ∨ (∀ k1 k2, b1 x () k1 = k1 () ∧ b2 x () k2 = k2 ())) →
    (∃ r, Pr r ∧ ∀ k1 k2, forO xs () b1 k1 = some r ∧ forO xs () b2 k2 = some r) ∨ (∀ k1 k2, forO xs () b1 k1 = k1 () ∧ forO xs () b2 k2 = k2 ())
  | [], _ => .inr fun _ _ => ⟨rfl, rfl⟩
  | x :: xs, h => by
    rcases h x (List.mem_cons_self ..) with ⟨r, hr, h1⟩ | h1
    · exact .inl ⟨r, hr, fun k1 k2 => h1 _ _⟩
    · rcases forO_two xs (fun y m => h y (List.mem_cons_of_mem _ m)) with ⟨r, hr, h2⟩ | h2
      · exact .inl ⟨r, hr, fun k1 k2 => ⟨(h1 (fun _ => forO xs () b1 k1) (fun _ => forO xs () b2 k2)).1.trans (h2 k1 k2).1, (h1 (fun _ => forO xs () b1 k1) (fun _ => forO xs () b2 k2)).2.trans (h2 k1 k2).2⟩⟩
      · exact .inr fun k1 k2 => ⟨(h1 (fun _ => forO xs () b1 k1) (fun _ => forO xs () b2 k2)).1.trans (h2 k1 k2).1, (h1 (fun _ => forO xs () b1 k1) (fun _ => forO xs () b2 k2)).2.trans (h2 k1 k2).2⟩
/-- a walk that always goes on -/
theorem forO_skip {b : α → Unit → (Unit → Option Ω) → Option Ω} {k : Unit → Option Ω} : ∀ (xs : List α), (∀ x ∈ xs, ∀ kc, b x () kc = kc ()) → forO xs () b k = k ()
  | [], _ => rfl
  | x :: xs, h => (h x (List.mem_cons_self ..) _).trans (forO_skip xs fun y m => h y (List.mem_cons_of_mem _ m))
/-- a comprehension, by an invariant -/
theorem compO_wp {ω : Ω} (Inv : S → Prop) (Pe : β → Prop) {b : α → S → (Option β → S → Option Ω) → Option Ω} {k : List β → S → Option Ω} : ∀ (xs : List α) (s : S) (acc : List β), Inv s → (∀ y ∈ acc, Pe y) → acc.length + xs.length ≤ SZ →
    (∀ s x, x ∈ xs → Inv s → ∀ kc : Option β → S → Option Ω, (∀ y s', Pe y → Inv s' → kc (some y) s' = some ω) → b x s kc = some ω) → (∀ ys s, ys.length = acc.length + xs.length → (∀ y ∈ ys, Pe y) → Inv s → k ys s = some ω) → compO xs s b acc k = some ω
  | [], s, acc, h0, ha, _, _, he => he acc s rfl ha h0
  | x :: xs, s, acc, h0, ha, hl, hs, he => hs s x (List.mem_cons_self ..) h0 _ fun y s' hy h' => by
    have hl' : acc.length + 1 + xs.length ≤ SZ := by simpa [Nat.add_assoc, Nat.add_comm 1] using hl
    refine ck_wp (decide_eq_true (by omega)) (compO_wp Inv Pe xs s' (acc ++ [y]) h' (fun z m => ?_) (by simpa using hl') (fun s z m => hs s z (List.mem_cons_of_mem _ m)) fun ys s e => he ys s (by simp at e ⊢; omega))
    rcases List.mem_append.1 m with m | m
    · exact ha z m
    · simp at m; subst m; exact hy
/-- .. that maps -/
theorem compO_map (g : α → β) {b : α → S → (Option β → S → Option Ω) → Option Ω} {k : List β → S → Option Ω} (s : S) : ∀ (xs : List α) (acc : List β), acc.length + xs.length ≤ SZ → (∀ x ∈ xs, ∀ kc, b x s kc = kc (some (g x)) s) → compO xs s b acc k = k (acc ++ xs.map g) s
  | [], acc, _, _ => by simp [compO]
  | x :: xs, acc, hl, h => by
    have hl' : acc.length + 1 + xs.length ≤ SZ := by simpa [Nat.add_assoc, Nat.add_comm 1] using hl
    refine (h x (List.mem_cons_self ..) _).trans ?_
    show ck _ _ = _
    rw [decide_eq_true (show acc.length < SZ by omega), ck_true, compO_map g s xs (acc ++ [g x]) (by simpa using hl') fun y m => h y (List.mem_cons_of_mem _ m)]
    simp
/-- .. that sifts and maps -/
theorem compO_filterMap (g : α → Option β) {b : α → S → (Option β → S → Option Ω) → Option Ω} {k : List β → S → Option Ω} (s : S) : ∀ (xs : List α) (acc : List β), acc.length + xs.length ≤ SZ → (∀ x ∈ xs, ∀ kc, b x s kc = kc (g x) s) → compO xs s b acc k = k (acc ++ xs.filterMap g) s
  | [], acc, _, _ => by simp [compO]
  | x :: xs, acc, hl, h => by
    have hl' : acc.length + 1 + xs.length ≤ SZ := by simpa [Nat.add_assoc, Nat.add_comm 1] using hl
    refine (h x (List.mem_cons_self ..) _).trans ?_
    cases e : g x with
    | some y =>
      show ck _ _ = _
      rw [decide_eq_true (show acc.length < SZ by omega), ck_true, compO_filterMap g s xs (acc ++ [y]) (by simpa using hl') fun y m => h y (List.mem_cons_of_mem _ m)]
      simp [e]
    | none =>
      show compO xs s b acc k = _
      rw [compO_filterMap g s xs acc (by omega) fun y m => h y (List.mem_cons_of_mem _ m)]
      simp [e]
end
/-! ### the drawing of the laws -/
def takeM (t0 : TSt) (a_most : Int) : Option (Int × TSt) :=
  ck (modOk (List.length t0.2 : Int)) (let v_at : Int := (Int.fmod t0.1 (List.length t0.2 : Int))
  (atI t0.2 v_at).bind fun y =>
  let v_cell : Int := y
  if (decide ((1000000000000000000 : Int) ≤ v_cell)) = true then (
    ck (divOk a_most) ((ixN (List.length t0.2) v_at).bind fun n =>
    let z : (List Int) := List.set t0.2 n (Int.fdiv v_cell a_most)
    ck (modOk a_most) (some ((Int.fmod v_cell a_most), (t0.1, z)))))
  else (
    let v_n : Int := (t0.1 + (1 : Int))
    ck (mulOk v_cell (48271 : Int)) (ck (mulOk v_n (69621 : Int)) (ck (modOk (2147483647 : Int)) (let v_mixed : Int := (Int.fmod ((v_cell * (48271 : Int)) + (v_n * (69621 : Int))) (2147483647 : Int))
    ck (mulOk v_mixed (16807 : Int)) (ck (mulOk v_n (7919 : Int)) (ck (modOk (1000000007 : Int)) (let v_mixed2 : Int := (Int.fmod ((v_mixed * (16807 : Int)) + (v_n * (7919 : Int))) (1000000007 : Int))
    ck (divOk (7 : Int)) (ck (modOk a_most) (some ((Int.fmod (Int.fdiv v_mixed2 (7 : Int)) a_most), (v_n, t0.2))))))))))))
theorem take_ok {t : TSt} {m : Int} (ht : t.2 ≠ []) (h0 : 0 < m) (h1 : m < 1073741824) : ∃ v t', takeM t m = some (v, t') ∧ 0 ≤ v ∧ v < m ∧ t'.2 ≠ [] := by
  have hl : 0 < t.2.length := List.length_pos_iff.2 ht
  have hl' : (0 : Int) < (t.2.length : Int) := by omega
  have a0 := Int.fmod_nonneg_of_pos t.1 hl'
  have a1 := Int.fmod_lt_of_pos t.1 hl'
  obtain ⟨k, hk, e, ea⟩ := atI_pos (xs := t.2) a0 a1
  unfold takeM
  rw [modOk_pos hl', ck_true]
  show ∃ v t', (atI t.2 (Int.fmod t.1 t.2.length)).bind _ = _ ∧ _
  rw [ea]
  show ∃ v t', (if (decide ((1000000000000000000 : Int) ≤ t.2[k])) = true then _ else _) = _ ∧ _
  by_cases c : (1000000000000000000 : Int) ≤ t.2[k]
  · rw [if_pos (decide_eq_true c), divOk_pos h0 h1, ck_true, e, ixN_nat hk]
    show ∃ v t', ck (modOk m) _ = _ ∧ _
    rw [modOk_pos h0, ck_true]
    refine ⟨_, _, rfl, Int.fmod_nonneg_of_pos _ h0, Int.fmod_lt_of_pos _ h0, fun z => ?_⟩
    exact ht (by simpa using z)
  · rw [if_neg (by simpa using c)]
    show ∃ v t', ck (mulOk _ 48271) (ck (mulOk _ 69621) (ck (modOk 2147483647) (ck (mulOk _ 16807) (ck (mulOk _ 7919) (ck (modOk 1000000007) (ck (divOk 7) (ck (modOk m) (some _)))))))) = _ ∧ _
    rw [mulOk_r (by decide) (by decide), mulOk_r (by decide) (by decide), mulOk_r (by decide) (by decide), mulOk_r (by decide) (by decide), modOk_pos (by decide), modOk_pos (by decide), divOk_pos (by decide) (by decide), modOk_pos h0]
    simp only [ck_true]
    exact ⟨_, _, rfl, Int.fmod_nonneg_of_pos _ h0, Int.fmod_lt_of_pos _ h0, ht⟩
theorem take_wp {Ω : Type} {t : TSt} {m : Int} {k : Int × TSt → Option Ω} {ω : Ω} (ht : t.2 ≠ []) (h0 : 0 < m) (h1 : m < 1073741824) (hk : ∀ v t', 0 ≤ v → v < m → t'.2 ≠ [] → k (v, t') = some ω) : (takeM t m).bind k = some ω := by
  obtain ⟨v, t', e, a, b, c⟩ := take_ok ht h0 h1
  exact bind_wp e (hk v t' a b c)
def stateM (a_script : List Int) : Option TSt :=
  compO (cutL a_script none (some (63 : Int))) () (fun x (t : Unit) kc => (
    kc (some (if x < 0 then -x else x)) ())) [] fun (ys : List Int) (t : Unit) => (
    let v_cells : (List Int) := ys
    let k := fun j : (List Int) => (
      some ((0 : Int), j))
    if (decide ((List.length v_cells : Int) = (0 : Int))) = true then (
      let v_cells2 : (List Int) := [(0 : Int)]
      k v_cells2)
    else (
      k v_cells))
theorem cutL_len {α : Type} (xs : List α) (a b : Option Int) : (cutL xs a b).length ≤ xs.length := by
  unfold cutL
  simp; omega
theorem state_ok {ns : List Int} (h : ns.length ≤ 63) : ∃ t, stateM ns = some t ∧ t.2 ≠ [] := by
  unfold stateM
  rw [compO_map (fun x : Int => if x < 0 then -x else x) () _ [] (by have := cutL_len ns none (some 63); show _ ≤ 16777216; simp; omega) (fun _ _ _ => rfl)]
  show ∃ t, (if decide _ = true then _ else _) = some t ∧ _
  split
  · exact ⟨_, rfl, by simp⟩
  · rename_i c
    exact ⟨_, rfl, fun z => c (decide_eq_true (by rw [show List.length _ = 0 from congrArg List.length z]; rfl))⟩
end Z

set_option Elab.async false
set_option linter.all false
set_option maxRecDepth 100000
namespace Z
open PySem PySem.Spec PyProof.Rows L2

/-! ### a list with parts of their own kinds, that is changed part by part -/
def lsR {τ : Type} (E : Enc τ) : Stor τ where
  rel := fun K F H fp v t => ∃ p vs ds, v = .ref p ∧ H p = some (.lst vs) ∧ E.enc t = .tuple ds ∧ RepAll K F vs ds ∧ fp = [p]
  monoF := fun s h => by
    obtain ⟨p, vs, ds, rfl, hp, e, r, rfl⟩ := h
    exact ⟨p, vs, ds, rfl, hp, e, r.mono s, rfl⟩
  frame := fun f h => by
    obtain ⟨p, vs, ds, rfl, hp, e, r, rfl⟩ := h
    exact ⟨p, vs, ds, rfl, by rw [f p List.mem_cons_self]; exact hp, e, r, rfl⟩
/-- another value at the n-th part -/
structure PartS (E : Enc τ) (n : Int) (E1 : Enc α) (u : τ → α → τ) : Prop where
  is : ∀ x y, ∃ ds j, E.enc x = .tuple ds ∧ ixN ds.length n = some j ∧ E.enc (u x y) = .tuple (ds.set j (E1.enc y))
theorem parts2_0 {A : Enc α} {B : Enc β} : PartS (eT2 A B) 0 A (fun x y => (y, x.2)) := ⟨fun _ _ => ⟨_, _, rfl, rfl, rfl⟩⟩
theorem parts2_1 {A : Enc α} {B : Enc β} : PartS (eT2 A B) 1 B (fun x y => (x.1, y)) := ⟨fun _ _ => ⟨_, _, rfl, rfl, rfl⟩⟩
theorem parts3_0 {γ : Type} {A : Enc α} {B : Enc β} {D : Enc γ} : PartS (eT3 A B D) 0 A (fun x y => (y, x.2)) := ⟨fun _ _ => ⟨_, _, rfl, rfl, rfl⟩⟩
theorem parts3_1 {γ : Type} {A : Enc α} {B : Enc β} {D : Enc γ} : PartS (eT3 A B D) 1 B (fun x y => (x.1, y, x.2.2)) := ⟨fun _ _ => ⟨_, _, rfl, rfl, rfl⟩⟩
theorem parts3_2 {γ : Type} {A : Enc α} {B : Enc β} {D : Enc γ} : PartS (eT3 A B D) 2 D (fun x y => (x.1, x.2.1, y)) := ⟨fun _ _ => ⟨_, _, rfl, rfl, rfl⟩⟩
theorem parts4_0 {γ δ : Type} {A : Enc α} {B : Enc β} {D : Enc γ} {D' : Enc δ} : PartS (eT4 A B D D') 0 A (fun x y => (y, x.2)) := ⟨fun _ _ => ⟨_, _, rfl, rfl, rfl⟩⟩
theorem parts4_1 {γ δ : Type} {A : Enc α} {B : Enc β} {D : Enc γ} {D' : Enc δ} : PartS (eT4 A B D D') 1 B (fun x y => (x.1, y, x.2.2)) := ⟨fun _ _ => ⟨_, _, rfl, rfl, rfl⟩⟩
theorem parts4_2 {γ δ : Type} {A : Enc α} {B : Enc β} {D : Enc γ} {D' : Enc δ} : PartS (eT4 A B D D') 2 D (fun x y => (x.1, x.2.1, y, x.2.2.2)) := ⟨fun _ _ => ⟨_, _, rfl, rfl, rfl⟩⟩
theorem parts4_3 {γ δ : Type} {A : Enc α} {B : Enc β} {D : Enc γ} {D' : Enc δ} : PartS (eT4 A B D D') 3 D' (fun x y => (x.1, x.2.1, x.2.2.1, y)) := ⟨fun _ _ => ⟨_, _, rfl, rfl, rfl⟩⟩
section
variable {X : Cx} {R I Ω : Type} {SR : Stor R} {envR : I → Env} {kr : R → I → Option Ω} {bk ct : Lp Ω} {env : Env} {nm : Str} {pos : Pos} {a b e : Expr} {xs : List Expr} {rest : List Stmt} {P A : Type} {J : Type} {envJ : J → Env} {e' : P → Env} {τ α : Type} {E : Enc τ} {E1 : Enc α}
/-- [a, 0, ..] -/
theorem lx_row {sl : A → Env} {fs : (A → P → Option Ω) → Option Ω} (h : LA X env xs sl e' fs) (E : Enc τ) (g : A → τ) (ds : A → List PyData) (hd : ∀ a, ShL (sl a) (ds a)) (he : ∀ a, E.enc (g a) = .tuple (ds a)) (hz : xs.length ≤ 1000 := by decide) (hz2 : ∀ a, (sl a).length = xs.length := by intro _; rfl) :
    LX X env (.List xs pos) (lsR E) e' (fun k => fs fun a p => k (g a) p) :=
  fun C F H σs es σ k ω Q hK hl hr hk q => tE.of X (pe_lst (paC X)) (h C F H σs es σ _ ω _ hK hl hr hk fun a p vs F' H' hk' hlv h' => by
    refine ⟨?_, fun t nt => ?_⟩
    · have := hz2 a; simp at hlv; exact Nat.le_of_lt (small1000 (by omega))
    · have r := (hd a).rep hlv h'
      exact q (g a) p (.ref t) F' _ hk' ((h'.popN hlv).newOw nt ⟨t, vs, ds a, rfl, upd_same, he a, r, rfl⟩))
/-- row[n] -/
theorem lx_rowAt {w : Option V} {t : τ} {n : Int} {g : τ → α} {p1 cp sp : Pos} {k : Nat} (i : Nat) (hp : Part E n E1 g) (he : env[i]? = some (.st w τ (lsR E) t)) (hi : X.N[i]? = some nm := by rfl) (hv_nm : Vis X.env.scope nm := by first | exact Or.inl rfl | exact Or.inr (Or.inl rfl) | exact Or.inr (Or.inr rfl)) (hd : (nm == ("__debug__" : Str)) = false := by decide) (hcd : (nm == ("__classdict__" : Str)) = false := by decide) :
    LX X env (.Subscript (.Name nm p1) (.Constant (.int n) k cp) sp) (it E1) (fun _ : Unit => env) (fun (k : α → Unit → Option Ω) => k (g t) ()) :=
  fun C F H σs es σ k ω Q hK hl h hk q => tE.of X (pe_ix ix_list (pe_var hi hv_nm hd hcd) pe_int fun _ _ => rfl) (by
    obtain ⟨v, fp, e1, p, vs, ds, rfl, h1, h2, h3, _⟩ := h.lookF hl he
    obtain ⟨ds', q1, q2⟩ := hp.is t
    rw [h2] at q1
    cases q1
    obtain ⟨u, hu, ru⟩ := h3.atD q2
    exact ⟨_, e1, p, vs, n, u, rfl, rfl, SqL.of h1, hu, q (g t) () u F H hk (h.pushSh ru)⟩)
/-- row[n] = e -/
theorem lb_setrow {f : (α → P → Option Ω) → Option Ω} {fr : α → P → (J → Option Ω) → Option Ω} {w : Option V} {t : P → τ} {n : Int} {u : τ → α → τ} {p1 cp sp : Pos} {k : Nat} (i : Nat) (hp : PartS E n E1 u) (he : LX X env e (it E1) e' f) (h1 : ∀ p, (e' p)[i]? = some (.st w τ (lsR E) (t p)))
    (hr : ∀ y p, LB X SR envR kr bk ct ((e' p).set i (.st w τ (lsR E) (u (t p) y))) rest envJ (fr y p)) (hi : X.N[i]? = some nm := by rfl) (hv_nm : Vis X.env.scope nm := by first | exact Or.inl rfl | exact Or.inr (Or.inl rfl) | exact Or.inr (Or.inr rfl)) (hd : (nm == ("__debug__" : Str)) = false := by decide) (hcd : (nm == ("__classdict__" : Str)) = false := by decide)
    (ha : ∀ v, assign (.Subscript (.Name nm p1) (.Constant (.int n) k cp) sp) X.env v = (do
      let ov ← holding [v] (eval (.Name nm p1) X.env)
      let iv ← holding [v, ov] (eval (.Constant (.int n) k cp) X.env)
      standAt sp
      holding [v, ov, iv] (setItem ov iv v)
      release [v, ov, iv] []) := by intro _; rfl)
    (hs : swapsWithSole [.Subscript (.Name nm p1) (.Constant (.int n) k cp) sp] e pos.line X.env = pure false := by rfl) (hw : swappedStores [.Subscript (.Name nm p1) (.Constant (.int n) k cp) sp] e X.env = pure none := by rfl) (ha1 : (assignEach [.Subscript (.Name nm p1) (.Constant (.int n) k cp) sp] X.env).map (·.2) = [assign (.Subscript (.Name nm p1) (.Constant (.int n) k cp) sp) X.env] := by rfl) :
    LB X SR envR kr bk ct env (.Assign [.Subscript (.Name nm p1) (.Constant (.int n) k cp) sp] e pos :: rest) envJ (fun kn => f fun y p => fr y p kn) :=
  fun C F H σs es σ kn ω D hK hl h hk qn qb qc qr => tSs.of X (pss_cons (ps_asg (peC X) (pg_sub (pe_var hi hv_nm hd hcd) pe_int set_list ha) hs hw ha1) (pssC X)) (he C F H σs es σ _ ω _ hK hl h hk fun y p v F' H' hk' h' => by
    have hvy : Rep C.K F' v (E1.enc y) := by
      obtain ⟨v', fp, e1, r⟩ := h'.look (i := 0) rfl
      simp at e1; subst e1
      exact r.2
    obtain ⟨l, fp, e1, r1, nd, ow, fin⟩ := (ER.pop h').mut (i := es.length + i) (by rw [at_app _ rfl]; exact h1 p)
    rw [at_app _ hl] at e1
    obtain ⟨p0, vs, ds, rfl, h2, h3, h4, rfl⟩ := r1
    obtain ⟨ds', j, q1, q2, q3⟩ := hp.is (t p) y
    rw [h3] at q1
    cases q1
    have hj : ixN vs.length n = some j := by rw [h4.length]; exact q2
    refine ⟨_, e1, p0, vs, n, j, rfl, rfl, h2, hj, ?_⟩
    have fin' := fin τ (lsR E) (u (t p) y) (upd H' p0 (.lst (vs.set j v))) [p0] (fun a na _ => upd_ne fun z => na (by rw [z]; simp)) (fun a m => ?_) ⟨p0, _, _, rfl, upd_same, q3, h4.set hvy, rfl⟩ (by simp) (fun a m => ?_)
    · rw [List.set_append_right _ _ (Nat.le_add_right _ _), Nat.add_sub_cancel_left] at fin'
      exact hr y p C F' _ σs es σ kn ω D hK hl fin' hk' qn qb qc qr
    · by_cases z : a = p0
      · subst z; rw [upd_same]; exact fun z => by cases z
      · rw [upd_ne z]; exact m
    · simp at m; subst m
      exact ⟨by rw [upd_same]; exact (fun z => by cases z), .inl (by simp)⟩)
variable {np tp : Pos} {f : (τ → P → Option Ω) → Option Ω}
theorem sqT_ty {K : Fg} {H : Hp} {p : Addr} {vs : List V} (h : SqT K H p vs) : TyX K H (.ref p) (.type "tuple") := by
  rcases h with (h | ⟨o, h⟩) | ⟨o, its, n, h1, h2, _⟩
  · exact .base (.tup h)
  · exact .fTuple h
  · exact .kTuple h1 h2
/-- isinstance(a, tuple) of a tuple -/
theorem lx_isT (hE : ∀ x, ∃ ds, E.enc x = .tuple ds) (hm1 : X.mg "isinstance" = none) (hm2 : X.mg "tuple" = none) (ha : LX X env a (it E) e' f) (hg1 : Gl X "isinstance" := by rfl) (hg2 : Gl X "tuple" := by rfl)
    (hs : starEach [a, .Name "tuple" tp] X.env = (false, eval a X.env) :: starEach [.Name "tuple" tp] X.env := by rfl) (hs2 : starEach [.Name "tuple" tp] X.env = (false, eval (.Name "tuple" tp) X.env) :: starEach [] X.env := by rfl) (hpl : (backTo pos (starEach [.Name "tuple" tp] X.env)).any (·.1) = false := by rfl) :
    LX X env (.Call (.Name "isinstance" np) [a, .Name "tuple" tp] [] pos) (it eB) e' (fun k => f fun _ p => k true p) :=
  fun C F H σs es σ k ω Q hK hl h hk q => tE.of X (pe_callB call_isi hg1 hm1 (by rfl) (pa_cons (peC X) (pa_cons (pe_bltn (v := .ty "tuple") (u := .type "tuple") hg2 hm2 (by rfl) rfl) pa_nil hs2) hs) (by decide) (by decide) hs hpl) (ha C F H σs es σ _ ω _ hK hl h hk fun x p v F' H' hk' h' => by
    obtain ⟨v', fp, e1, _, r⟩ := h'.look (i := 0) rfl
    simp at e1; subst e1
    obtain ⟨ds, e⟩ := hE x
    rw [e] at r
    obtain ⟨t, vs, rfl, h1, h2⟩ := r.tup_inv
    exact ⟨_, _, _, _, true, rfl, .ty "tuple", sqT_ty (by rw [← hK]; exact same_sqT h'.sF h1), by unfold PySem.W.kitOne; rw [if_pos (by decide)], q true p (.bl true) F' H' hk' (h'.pop.pushSh (.bl true))⟩)
/-- len of a tuple of parts -/
theorem lx_lenT {n : Nat} (hE : ∀ x, ∃ ds, E.enc x = .tuple ds ∧ ds.length = n) (hm : X.mg "len" = none) (ha : LX X env a (it E) e' f) (hg : Gl X "len" := by rfl) (he : starEach (a :: []) X.env = (false, eval a X.env) :: starEach [] X.env := by rfl) (hpl : (backTo pos (starEach [] X.env)).any (·.1) = false := by rfl) :
    LX X env (.Call (.Name "len" np) [a] [] pos) (it eI) e' (fun k => f fun _ p => k (n : Int) p) :=
  lx_b1t (G := fun _ => True) (E := eI) (g := fun _ : τ => (n : Int)) call_len_seq hm PySem.boot_len (lo_of ha) (fun _ => trivial) (fun K F H fp v x Q hK s r q => by
    obtain ⟨_, r⟩ := r
    obtain ⟨ds, e, hn⟩ := hE x
    rw [e] at r
    obtain ⟨t, vs, rfl, h1, h2⟩ := r.tup_inv
    have := h2.length
    exact ⟨t, vs, rfl, .inr (by rw [← hK]; exact same_sqT s h1), by rw [this, hn]; exact q _ (.int _)⟩) hg (by decide) (by decide) he hpl
end
end Z

set_option Elab.async false
set_option linter.all false
set_option maxRecDepth 100000
namespace Z
open PySem PySem.Spec PyProof.Rows L2

/-! ### pairs in their order; ranges; walks that gather -/
abbrev lpp : Int × Int → Int × Int → Bool := lt2 ltI ltI
theorem lpp_iff {x y : Int × Int} : lpp x y = true ↔ (x.1 < y.1 ∨ (x.1 = y.1 ∧ x.2 < y.2)) := by
  unfold lpp lt2 ltI
  by_cases c : x.1 = y.1
  · rw [if_pos c, decide_eq_true_eq]; omega
  · rw [if_neg c, decide_eq_true_eq]; omega
theorem lpp_no {x y : Int × Int} : lpp x y = false ↔ ¬(x.1 < y.1 ∨ (x.1 = y.1 ∧ x.2 < y.2)) := by rw [← lpp_iff]; simp
theorem minB_pp {l : List (Int × Int)} {m : Int × Int} (hm : m ∈ l) (h : ∀ y ∈ l, lpp y m = false) : minB lpp l = some m := by
  have key : ∀ (l : List (Int × Int)) (a : Int × Int), (l.foldl (fun a y => if lpp y a = true then y else a) a ∈ a :: l) ∧ ∀ y ∈ a :: l, lpp y (l.foldl (fun a y => if lpp y a = true then y else a) a) = false := by
    intro l
    induction l with
    | nil => intro a; refine ⟨by simp, fun y m => ?_⟩; simp at m; subst m; rw [List.foldl_nil, lpp_no]; omega
    | cons b l ih =>
      intro a
      rw [List.foldl_cons]
      by_cases c : lpp b a = true
      · rw [if_pos c]
        obtain ⟨i1, i2⟩ := ih b
        refine ⟨by rcases List.mem_cons.1 i1 with h | h <;> simp [h], fun y m => ?_⟩
        rcases List.mem_cons.1 m with rfl | m
        · have i3 := i2 b (by simp)
          rw [lpp_no] at i3 ⊢
          rw [lpp_iff] at c
          omega
        · exact i2 y m
      · rw [if_neg c]
        obtain ⟨i1, i2⟩ := ih a
        refine ⟨by rcases List.mem_cons.1 i1 with h | h <;> simp [h], fun y m => ?_⟩
        rcases List.mem_cons.1 m with rfl | m
        · exact i2 _ (by simp)
        · rcases List.mem_cons.1 m with rfl | m
          · have i3 := i2 a (by simp)
            have c' : lpp y a = false := by simpa using c
            rw [lpp_no] at i3 c' ⊢
            omega
          · exact i2 y (by simp [m])
  cases l with
  | nil => cases hm
  | cons a l =>
    obtain ⟨i1, i2⟩ := key l a
    show some _ = some m
    have h1 := h _ i1
    have h2 := i2 m hm
    rw [lpp_no] at h1 h2
    exact congrArg some (Prod.ext (by omega) (by omega))
theorem mem_range2 {lo hi x : Int} : x ∈ rangeL lo hi ↔ lo ≤ x ∧ x < hi := by
  unfold rangeL
  simp only [List.mem_map, List.mem_range]
  exact ⟨fun ⟨i, h, e⟩ => by omega, fun h => ⟨(x - lo).toNat, by omega, by omega⟩⟩
theorem rangeL_len {lo hi : Int} : (rangeL lo hi).length = (hi - lo).toNat := by simp [rangeL]
theorem rangeL_cons {lo hi : Int} (h : lo < hi) : ∃ r, rangeL lo hi = lo :: r := by
  unfold rangeL
  obtain ⟨n, hn⟩ : ∃ n, (hi - lo).toNat = n + 1 := ⟨(hi - lo).toNat - 1, by omega⟩
  rw [hn, List.range_succ_eq_map, List.map_cons]
  exact ⟨_, by simp; rfl⟩
theorem rangeL_snoc {lo hi : Int} (h : lo < hi) : ∃ r, rangeL lo hi = r ++ [hi - 1] := by
  unfold rangeL
  obtain ⟨n, hn⟩ : ∃ n, (hi - lo).toNat = n + 1 := ⟨(hi - lo).toNat - 1, by omega⟩
  rw [hn, List.range_succ, List.map_append]
  refine ⟨_, congrArg _ ?_⟩
  simp; omega
theorem rgOk_small {lo hi : Int} (h1 : -1000000 ≤ lo) (h2 : lo ≤ 1000000) (h3 : -1000000 ≤ hi) (h4 : hi ≤ 1000000) : rgOk lo hi = true := decide_eq_true ⟨by omega, by omega, by omega, by omega⟩
theorem atI_last {α : Type} {l : List α} {a : α} : atI (l ++ [a]) (-(1 : Int)) = some a := by
  unfold atI ixN
  rw [if_neg (by decide), if_pos (by simp; omega)]
  show (l ++ [a])[_]? = _
  have : (-(1 : Int) + ((l ++ [a]).length : Int)).toNat = l.length := by simp; omega
  rw [this]; simp
theorem forO_cat {α β Ω : Type} (f : α → List β) (m N : Nat) {b : α → List β → (List β → Option Ω) → Option Ω} {k : List β → Option Ω} : ∀ (xs : List α) (s : List β), s.length + xs.length * m ≤ N →
    (∀ x ∈ xs, (f x).length ≤ m ∧ ∀ s kc, s.length + m ≤ N → b x s kc = kc (s ++ f x)) → forO xs s b k = k (s ++ xs.flatMap f)
  | [], s, _, _ => by simp [forO]
  | x :: xs, s, hl, h => by
    obtain ⟨h1, h2⟩ := h x (List.mem_cons_self ..)
    rw [List.length_cons, Nat.add_mul, Nat.one_mul] at hl
    refine (h2 s _ (by omega)).trans ?_
    rw [forO_cat f m N xs (s ++ f x) (by rw [List.length_append]; omega) fun y k => h y (List.mem_cons_of_mem _ k), List.flatMap_cons, List.append_assoc]
/-- the cells of a rectangle, column by column -/
def grid (x0 x1 y0 y1 : Int) : List (Int × Int) := (rangeL x0 x1).flatMap fun c => (rangeL y0 y1).map fun r => (c, r)
theorem grid_first {x0 x1 y0 y1 : Int} (hx : x0 < x1) (hy : y0 < y1) : atI (grid x0 x1 y0 y1) 0 = some (x0, y0) := by
  obtain ⟨r, e⟩ := rangeL_cons hx
  obtain ⟨q, e2⟩ := rangeL_cons hy
  unfold grid
  rw [e, e2]
  simp only [List.flatMap_cons, List.map_cons, List.cons_append]
  exact Z.atI_nat (xs := (x0, y0) :: _) (i := 0) (by simp)
theorem grid_last {x0 x1 y0 y1 : Int} (hx : x0 < x1) (hy : y0 < y1) : atI (grid x0 x1 y0 y1) (-(1 : Int)) = some (x1 - 1, y1 - 1) := by
  obtain ⟨r, e⟩ := rangeL_snoc hx
  obtain ⟨q, e2⟩ := rangeL_snoc hy
  unfold grid
  rw [e, e2]
  simp only [List.flatMap_append, List.map_append, List.flatMap_cons, List.flatMap_nil, List.map_cons, List.map_nil, List.append_nil, ← List.append_assoc]
  exact atI_last
end Z

set_option Elab.async false
set_option linter.all false
set_option maxRecDepth 100000
namespace Z
open PySem PySem.Spec PyProof.Rows L2

/-! ### a def that is called where no repr is under way -/
/-- the promise of a def, where no repr is under way -/
structure FnG (P : Program) (w : World) (K : Fg) (mg : Str → Option Value) (base : Heap) (k : Nat) (f : Addr) (fd : FuncData) (ps : List Str) (sp : Sp) : Prop where
  go : ∀ (A : Around) (ou : List PySem.Env) (s : Shared) (H : Hp) (ar : Args) (us : List Value) (vs : List V) (Q : VK) (E : XK), A.guards = some [] → Room k A → Env0 P w K mg base A ou s H → BindsTo s fd ar (ps.zip us) → Vals vs us → sp vs H Q E → codeAny (model P w) A (.call (.ref f) ar) (CR CX0 ou P w H s Q E) s
section
variable {P : Program} {w : World} {K : Fg} {mg : Str → Option Value} {base : Heap}
theorem FnG.weak {k : Nat} {f : Addr} {fd : FuncData} {ps : List Str} {sp sp' : Sp} (G : FnG P w K mg base k f fd ps sp) (h : ∀ vs H Q E, sp' vs H Q E → sp vs H Q E) : FnG P w K mg base k f fd ps sp' :=
  ⟨fun A ou s H ar us vs Q E g hr e hb hv hs => G.go A ou s H ar us vs Q E g hr e hb hv (h _ _ _ _ hs)⟩
theorem fnG0 {x qual : Str} {st : Stmt} {f : Addr} {fd : FuncData} {N ps : List Str} {k : Nat} {sp : Sp} (F : Fun K x qual st f fd) (S : FnScope N ps (defScope st)) (len : ∀ vs H Q E, sp vs H Q E → vs.length = ps.length)
    (hb : ∀ (cdv : Value) (A : Around) (ou : List PySem.Env) (s : Shared) (H : Hp) (vs : List V) (Q : VK) (E : XK), A.guards = some [] → Room k (A.deeper (envOfC qual (defScope st) s.heap.objs.size f cdv)) → sp vs H Q E →
      ∃ t, PSs (cxOf CX0 P w K mg base N qual (defScope st) f cdv A ou s H E).nox (defBody st) t ∧ t { nx := fun _ H' => Q .non H', rt := Q } (L2.start N vs) H) : FnG P w K mg base (k + 1) f fd ps sp := by
  obtain ⟨oc, od, kV, doc, pm, an, cdv, ct, osl, rfl, lk, hcd⟩ := F.ex
  constructor
  intro A ou s H ar us vs Q E hg hr e0 hbd hv hsp
  have hKs : K.In s.heap := e0.mod.kin.keeps fun b o e => (e0.bs b o e).1
  have hnl : s.heap.NoLimit := e0.mod.nolimit.keeps fun b o e => (e0.bs b o e).1
  have kinds : ∀ y ∈ ps.zip us, (defScope st).names.lookup y.1 = some .local ∨ ((defScope st).names.lookup y.1 = some .cell ∧ ((cellsFrom (s.heap.objs.size + 1) (defScope st).names []).lookup y.1).isSome = true) := by
    rintro ⟨nme, va⟩ hy
    cases S.par nme (List.of_mem_zip hy).1 with
    | inl z => exact Or.inl z
    | inr z => exact Or.inr ⟨z, PySem.W.cellsFrom_some _ _ _ (Or.inl z)⟩
  refine codeAny_call_function hr.depth (hKs _ _ lk) rfl S.co S.gen rfl (PySem.W.codeRec_of hKs hcd) (hbd _ _ _ _ ?go)
  refine wpAny_newFunctionEnv_cells S.kind kinds fun en1 hen s1 x1 => ?_
  subst hen
  refine ⟨hnl.keeps x1.toInCall.keep, codeAny_func ?_⟩
  obtain ⟨t, ht, hq⟩ := hb cdv A ou s H vs Q E hg (hr.deeper _) hsp
  have inv : Inv (cxOf CX0 P w K mg base N qual (defScope st) f cdv A ou s H E) [] (L2.start N vs) H s1 := inv_start S hr.hd e0 (len _ _ _ _ hsp) hv x1
  have ht2 := ht.nox
  refine wpAny_mono (ht2.run [] s1 (L2.start N vs) H _ inv hq) (fun fl s2 hs2 => ?_) fun e s2 hs2 => hs2
  cases fl with
  | ret u =>
    obtain ⟨v, σ2, H2, J, rv, q⟩ := hs2
    exact ⟨v, H2, J.os, J.bare, J.base, J.hok, rv, q⟩
  | next =>
    obtain ⟨σ2, H2, J, q⟩ := hs2
    exact ⟨V.non, H2, J.os, J.bare, J.base, J.hok, rfl, q⟩
  | brk => exact False.elim hs2.choose_spec.choose_spec.2
  | cont => exact False.elim hs2.choose_spec.choose_spec.2
/-- .. by its body's derivation -/
theorem fnPG {x qual : Str} {st : Stmt} {f : Addr} {fd : FuncData} {N ps : List Str} {k : Nat} {A R : Type} {sl : A → Env} {SR : Stor R} {m : A → Option R} (F : Fun K x qual st f fd) (S : FnScope N ps (defScope st)) (n : Nat) (hn : N.length - ps.length = n) (hl : ∀ a, (sl a).length = ps.length)
    (hb : ∀ (cdv : Value) (A' : Around) (ou : List PySem.Env) (s : Shared) (H : Hp) (E : XK), (A'.deeper (envOfC qual (defScope st) s.heap.objs.size f cdv)).guards = some [] → Room k (A'.deeper (envOfC qual (defScope st) s.heap.objs.size f cdv)) → ∀ a : A,
      LB (cxOf CX0 P w K mg base N qual (defScope st) f cdv A' ou s H E).nox SR (fun _ : Unit => List.replicate (ps.length + n) .un) (fun (r : R) (_ : Unit) => some r) (noLp R) (noLp R) (sl a ++ List.replicate n .un) (defBody st) (fun z : Empty => z.elim) (fun _ => m a)) :
    FnG P w K mg base (k + 1) f fd ps (spP K sl SR m) := by
  have hlen : ∀ vs H Q E, spP K sl SR m vs H Q E → vs.length = ps.length := fun vs H Q E h => by
    obtain ⟨B, F0, a, r, _, h2, _⟩ := h
    rw [List.length_map] at h2; rw [h2, hl a]
  refine fnG0 F S hlen fun cdv A' ou s H vs Q E hg hr h => ?_
  have hlv := hlen vs H Q E h
  obtain ⟨B, F0, a, r, hm, _, her, q⟩ := h
  refine ⟨_, pssC _, ?_⟩
  have hst : L2.start N vs = vs.map some ++ List.replicate n none := by unfold L2.start; rw [hlv, hn]
  rw [hst]
  refine hb cdv A' ou s H E hg hr a ⟨K, B, F0, H, []⟩ F0 H [] [] _ (fun z => z.elim) r { nx := fun _ H' => Q .non H', rt := Q } rfl rfl (her.padR n) hm (fun z => z.elim) (fun z => z.elim) (fun z => z.elim) ?_
  intro a' i v F' H' σ' e h'
  cases e
  exact q F' H' v h'.head
/-- the call of the law's def from the claim's caller: nothing but the script is held -/
theorem lawG1 {mb : Str → Option Value} {k : Nat} {fa a : Addr} {fd : FuncData} {x : Str} {sp : Sp} {s1 : Shared} {vs : List Value} {H : Hp} (KX : K.In s1.heap) (hns : s1.heap.Ns mainGlobals mg) (hb : s1.heap.Ns builtinsNs mb) (hbb : ∀ y : Str, y ≠ "__name__" → mb y = bootBuiltins y) (hlim : s1.heap.NoLimit) (hg : s1.gens = #[])
    (ha : s1.heap.get? a = some { cls := .type "list", data := .seq vs.toArray }) (hr : Room k callerA) (F : ∀ bs : Heap, K.In bs → bs.Ns mainGlobals mg → FnG P w K mg bs k fa fd [x] sp) (hbind : ∀ (s : Shared) (u : Value), BindsTo s fd ⟨[u], []⟩ [(x, u)])
    (hO : Only H) (hsp : sp [.ref a] H (fun v _ => v = .bl true) fun _ _ _ => False) (hok : HOk P w H s1.heap) (hA : ∀ b, H b ≠ none → b = a) (hK : H a ≠ none → K.lookup a = none) :
    codeAny (model P w) callerA (.call (.ref fa) ⟨[.ref a], []⟩) (fun r s' => r = .ok (.ret (.bool true)) ∧ OldK s1.heap s'.heap ∧ s'.os = s1.os ∧ AllBare s'.gens) s1 := by
  have up : ∀ {c : Addr} {o : Obj}, s1.heap.get? c = some o → H c = none → (hidT s1.heap H).get? c = some o := fun e n => hidT_get e n
  have free : ∀ {c : Addr} {o : Obj} {es : Array DictEntry} {ep : Nat}, s1.heap.get? c = some o → o.data = .dict es ep → H c = none := by
    intro c o es ep e d
    rcases q : H c with _ | u
    · rfl
    · have hc : c = a := hA c (by rw [q]; exact fun z => by cases z)
      rw [hc, ha] at e
      cases e
      cases (show Data.seq vs.toArray _ = Data.dict es ep from d)
  have nsUp : ∀ {c : Addr} {m : Str → Option Value}, s1.heap.Ns c m → (hidT s1.heap H).Ns c m := fun ⟨o, es, ep, e, d, r⟩ => ⟨o, es, ep, up e (free e d), d, r⟩
  have inUp : K.In (hidT s1.heap H) := by
    intro c o e
    refine up (KX c o e) ?_
    rcases q : H c with _ | u
    · rfl
    · have hc : c = a := hA c (by rw [q]; exact fun z => by cases z)
      subst hc
      have := hK (by rw [q]; exact fun z => by cases z)
      rw [this] at e; cases e
  have md : Mod K mg (hidT s1.heap H) := ⟨inUp, nsUp hns, ⟨mb, nsUp hb, hbb⟩, by obtain ⟨mc, h1, h2⟩ := hlim; exact ⟨mc, nsUp h1, h2⟩⟩
  have ev : Env0 P w K mg (hidT s1.heap H) callerA [] s1 H := by
    refine ⟨rfl, md, fun c o e => of_hidT e, Nat.le_of_eq (hidT_size _ _), trivial, fun c hc => ?_, hok, .of_eq hg⟩
    cases (show c ∈ ([] : List Addr) from hc)
  have run := (F _ inUp (nsUp hns)).go callerA [] s1 H ⟨[.ref a], []⟩ [.ref a] [.ref a] _ _ rfl hr ev (hbind s1 (.ref a)) (.cons rfl .nil) hsp
  refine codeAny_mono run fun r s' h => ?_
  match r, h with
  | .error e, h => exact False.elim h
  | .ok .next, h => exact False.elim h
  | .ok .brk, h => exact False.elim h
  | .ok .cont, h => exact False.elim h
  | .ok (.ret u), h =>
    obtain ⟨v, H2, os, bare, un, hok2, rv, q⟩ := h
    have hv : v = .bl true := q
    rw [hv] at rv
    have hu : u = Value.bool true := rv
    refine ⟨by rw [hu], OldK.of_keep fun c o e => ?_, os, bare⟩
    rcases q2 : H c with _ | g
    · exact un.keep c o e q2 (fun z => by cases (show c ∈ ([] : List Addr) from z)) (by simp)
    · rcases hO c with z | ⟨ob, xs, z⟩
      · rw [q2] at z; cases z
      · have e1 := (hok c _ z).1
        have e2 := (hok2 c _ (un.frzs c ob _ z)).1
        rw [e] at e1; cases e1
        exact e2
theorem lawG {mb : Str → Option Value} {k : Nat} {fa a : Addr} {fd : FuncData} {x : Str} {sp : Sp} {s1 : Shared} {vs : List Value} {ns : List Int} (KX : K.In s1.heap) (hns : s1.heap.Ns mainGlobals mg) (hb : s1.heap.Ns builtinsNs mb) (hbb : ∀ y : Str, y ≠ "__name__" → mb y = bootBuiltins y) (hlim : s1.heap.NoLimit) (hg : s1.gens = #[])
    (ha : s1.heap.get? a = some { cls := .type "list", data := .seq vs.toArray }) (hi : IntsAre vs ns) (hl : ns.length ≤ sizeLine) (hr : Room k callerA) (F : ∀ bs : Heap, K.In bs → bs.Ns mainGlobals mg → FnG P w K mg bs k fa fd [x] sp) (hbind : ∀ (s : Shared) (u : Value), BindsTo s fd ⟨[u], []⟩ [(x, u)])
    (hsp : ∀ H : Hp, Only H → SqL K H a (ns.map V.int) → sp [.ref a] H (fun v _ => v = .bl true) fun _ _ _ => False) :
    codeAny (model P w) callerA (.call (.ref fa) ⟨[.ref a], []⟩) (fun r s' => r = .ok (.ret (.bool true)) ∧ OldK s1.heap s'.heap ∧ s'.os = s1.os ∧ AllBare s'.gens) s1 := by
  have rv := vals_ints hi
  have hlen := hi.length
  rcases hk : K.lookup a with _ | o
  · have hO : Only (fun c => if c = a then some (.frz { cls := .type "list", data := .seq vs.toArray } (.lst (ns.map V.int))) else none) := fun c => by
      by_cases z : c = a
      · exact .inr ⟨_, _, if_pos z⟩
      · exact .inl (if_neg z)
    refine lawG1 KX hns hb hbb hlim hg ha hr F hbind hO (hsp _ hO (.inl (.inr ⟨_, if_pos rfl⟩))) (fun c u z => ?_) (fun c z => ?_) (fun _ => hk)
    · by_cases q : c = a
      · rw [if_pos q] at z
        cases z
        rw [q]
        exact ⟨ha, by rw [List.length_map]; exact hl, vs, _, rv, ha⟩
      · rw [if_neg q] at z; cases z
    · by_cases q : c = a
      · exact q
      · exact absurd (if_neg q) z
  · have e := KX a o hk
    rw [ha] at e
    cases e
    refine lawG1 (H := fun _ => none) KX hns hb hbb hlim hg ha hr F hbind (fun _ => .inl rfl) (hsp _ (fun _ => .inl rfl) (.inr ⟨_, vs.toArray, _, hk, rfl, rfl, rfl, by rw [List.size_toArray, hlen]; exact hl, by simpa using rv⟩)) (fun c u z => by cases (show (none : Option HO) = some u from z)) (fun c z => absurd rfl z) (fun z => absurd rfl z)
end
theorem walkG {l : PySem.W.OpenLaw} {n k : Nat} {q : Program} {loose : List Str} {XP : (Str → Option Value) → Heap → Prop} {YP : World → Heap → Prop} {d : DefRec} {K : Params → Fg} {sp : World → Sp} {x : Str} (hn : l.most = some n) (hn2 : n ≤ sizeLine) (hdf : d.params.defaults = []) (hr : Room k callerA) (hY : ∀ (w : World) (h : Heap), YP w h → (K w.params).In h)
    (F : ∀ (w : World) (mg : Str → Option Value) (fa : Addr) (h : Heap), (K w.params).In h → h.Ns mainGlobals mg → mg d.name = some (.ref fa) → ∃ fd : FuncData, (∀ (s : Shared) (u : Value), BindsTo s fd ⟨[u], []⟩ [(x, u)]) ∧ ∀ bs : Heap, (K w.params).In bs → bs.Ns mainGlobals mg → FnG l.prog w (K w.params) mg bs k fa fd [x] (sp w))
    (hsp : ∀ (w : World) (H : Hp) (a : Addr) (ns : List Int), ns.length ≤ n → Only H → SqL (K w.params) H a (ns.map V.int) → sp w [.ref a] H (fun v _ => v = .bl true) fun _ _ _ => False) :
    PySem.W.WalkO q loose XP YP l.row.toRowW d [] (fun f vs => PySem.call f vs) := by
  refine Att.attach_call hn hdf fun w s0 s1 mg mb fa o pm cd doc a vs ns G Y ho hd hcd hmg hobj hints hlen hg => ?_
  obtain ⟨fd, hbd, hF⟩ := F w mg fa _ (hY w _ Y) G.T.g hmg
  exact lawG (hY w _ Y) G.T.g G.T.b G.T.builtins G.T.nolimit hg hobj hints (Nat.le_trans hlen hn2) hr hF hbd fun H hO hS => hsp w H a ns hlen hO hS
end Z

set_option Elab.async false
set_option linter.all false
set_option maxRecDepth 100000
namespace Z
open PySem PySem.Spec PyProof.Rows L2

/-! ### repr of data -/
def showOk (d : PyData) : Bool := d.canLay0 && d.showable && decide (d.depth ≤ 60) && decide (d.shown.length ≤ sizeLine)
/-- the text of a datum, where it can be told -/
def reprO (d : PyData) : Option Str := if showOk d = true then some d.shown else none
def rRepr (K : Fg) : List V → Hp → VK → Prop := fun vs H Q => ∃ (v : V) (d : PyData), vs = [v] ∧ Dp K H v d ∧ showOk d = true ∧ Q (.str d.shown) H
theorem cr_repr {X : Cx} (hg : X.A.guards = some []) (hu : X.A.units + 64 < cLine) : CallR X (.builtin "repr") (rRepr X.K) := by
  intro pins s σ H vs us Q I r h
  obtain ⟨v, d, rfl, hd, hs, q⟩ := h
  simp only [showOk, Bool.and_eq_true, decide_eq_true_eq] at hs
  obtain ⟨⟨⟨s1, s2⟩, s3⟩, s4⟩ := hs
  obtain ⟨u, rfl, rv⟩ := vals1 r
  obtain ⟨as, hr⟩ := Dp.reads I d v u hd rv
  have nodict : d.hasDict = true → sysModules ∉ as := PyData.noDict_hsm (PyData.hasDict_of_canLay d s1)
  cases hd with
  | non =>
    have e : u = .none := rv
    subst e
    exact PySem.P.repr_of_none ⟨.str _, H, I.tok _, ⟨_, by rw [PyData.shown]⟩, q⟩
  | bl b =>
    have e : u = .bool b := rv
    subst e
    exact PySem.P.repr_of_bool ⟨.str _, H, I.tok _, ⟨_, by rw [PyData.shown]⟩, q⟩
  | int i =>
    obtain ⟨t, rfl⟩ := rv
    exact PySem.P.repr_of_int (by simpa [PyData.showable] using s2) ⟨.str _, H, I.tok _, ⟨_, by rw [PyData.shown]⟩, q⟩
  | str x =>
    obtain ⟨t, rfl⟩ := rv
    exact PySem.P.repr_of_str ⟨.str _, H, I.tok _, ⟨_, by rw [PyData.shown]⟩, q⟩ (by rw [PyData.shown] at s4; exact s4)
  | lst h1 h2 =>
    have e := (show u = Value.ref _ from rv)
    subst e
    exact PySem.repr_of_reads' hr s2 nodict hg (by omega) (fun b o e => e) (fun h' u tk hk => ⟨.str _, H, I.kept hk, ⟨u, rfl⟩, q⟩) s4
  | tup h1 h2 =>
    have e := (show u = Value.ref _ from rv)
    subst e
    exact PySem.repr_of_reads' hr s2 nodict hg (by omega) (fun b o e => e) (fun h' u tk hk => ⟨.str _, H, I.kept hk, ⟨u, rfl⟩, q⟩) s4
section
variable {X : Cx} {Ω : Type} {env : Env} {pos np : Pos} {a : Expr} {P τ : Type} {S : Stor τ} {E : Enc τ} {e' : P → Env} {G : Env → Prop} {f : (τ → P → Option Ω) → Option Ω}
theorem lx_repr (hgd : X.A.guards = some []) (hu : X.A.units + 64 < cLine) (dv : Dv S E) (hm : X.mg "repr" = none) (ha : LO X G env a S e' f) (hG : ∀ p, G (e' p)) (hg : Gl X "repr" := by rfl) (he : starEach (a :: []) X.env = (false, eval a X.env) :: starEach [] X.env := by rfl) (hpl : (backTo pos (starEach [] X.env)).any (·.1) = false := by rfl) :
    LX X env (.Call (.Name "repr" np) [a] [] pos) (it eS) e' (fun k => f fun x p => (reprO (E.enc x)).bind fun y => k y p) :=
  lx_b1 (E := eS) (g := fun x : τ => reprO (E.enc x)) (cr_repr hgd hu) hm PyProof.Rows.boot_repr ha hG (fun K F H fp v x y Q hK s hy r q => by
    unfold reprO at hy
    by_cases c : showOk (E.enc x) = true
    · rw [if_pos c] at hy
      cases hy
      have hl : (E.enc x).canLay0 = true := by
        simp only [showOk, Bool.and_eq_true, decide_eq_true_eq] at c
        exact c.1.1.1
      exact ⟨v, E.enc x, rfl, by rw [← hK]; exact dv.dp s hl r, c, q _ (.str _)⟩
    · rw [if_neg c] at hy; cases hy) hg (by decide) (by decide) he hpl
end
section
variable {X : Cx} {Ω : Type} {env : Env} {pos : Pos} {a b : Expr} {P1 P2 : Type} {e1 : P1 → Env} {e2 : P1 → P2 → Env} {fa : (Str → P1 → Option Ω) → Option Ω} {fb : P1 → (Str → P2 → Option Ω) → Option Ω}
theorem lc_txt {op : CmpOp} {r : R2} {g : Str → Str → Bool} (ho : OpR X (compareOp op) r) (hr : ∀ i j H (Q : VK), Q (.bl (g i j)) H → r (.str i) (.str j) H Q) (ha : LX X env a (it eS) e1 fa) (hb : ∀ p1, LX X (e1 p1) b (it eS) (e2 p1) (fb p1)) :
    LC X env op a b (fun p : P1 × P2 => e2 p.1 p.2) (fun k => fa fun x p1 => fb p1 fun y p2 => k (g x y) (p1, p2)) :=
  lc_cmp ho (lo_of ha) (fun p1 => lo_of (hb p1)) (fun _ _ => trivial) (fun _ _ => trivial) fun K F H fp fq v u x y Q _ _ r1 r2 q => by
    obtain ⟨_, r1⟩ := r1
    obtain ⟨_, r2⟩ := r2
    cases r1; cases r2
    exact hr x y H Q q
theorem lc_eqS (ha : LX X env a (it eS) e1 fa) (hb : ∀ p1, LX X (e1 p1) b (it eS) (e2 p1) (fb p1)) : LC X env .Eq a b (fun p : P1 × P2 => e2 p.1 p.2) (fun k => fa fun x p1 => fb p1 fun y p2 => k (decide (x = y)) (p1, p2)) :=
  lc_txt op_eq (fun i j _ _ q => ⟨rfl, by simpa using q⟩) ha hb
theorem lc_neS (ha : LX X env a (it eS) e1 fa) (hb : ∀ p1, LX X (e1 p1) b (it eS) (e2 p1) (fb p1)) : LC X env .NotEq a b (fun p : P1 × P2 => e2 p.1 p.2) (fun k => fa fun x p1 => fb p1 fun y p2 => k (!decide (x = y)) (p1, p2)) :=
  lc_txt op_ne (fun i j _ _ q => ⟨rfl, by simpa using q⟩) ha hb
end
/-! ### in -/
def inB {τ : Type} [DecidableEq τ] (x : τ) (ys : List τ) : Bool := ys.any fun z => decide (z = x)
theorem inB_iff {τ : Type} [DecidableEq τ] {x : τ} {ys : List τ} : inB x ys = true ↔ x ∈ ys := by
  unfold inB
  rw [List.any_eq_true]
  exact ⟨fun ⟨z, hz, e⟩ => by rw [← of_decide_eq_true e]; exact hz, fun h => ⟨x, h, decide_eq_true rfl⟩⟩
section
variable {X : Cx} {Ω : Type} {env : Env} {a b : Expr} {P1 P2 τ1 : Type} {S1 : Stor τ1} {E1 : Enc τ1} {e1 : P1 → Env} {e2 : P1 → P2 → Env} {G1 : Env → Prop} {G2 : P1 → Env → Prop} {fa : (τ1 → P1 → Option Ω) → Option Ω}
theorem any_in [DecidableEq τ1] (ev : Ev E1) (x : τ1) (ys : List τ1) : ((ys.map E1.enc).any fun z => PyData.eqv z (E1.enc x)) = inB x ys := by
  rw [Bool.eq_iff_iff, inB_iff, List.any_eq_true]
  constructor
  · rintro ⟨z, hz, e⟩
    obtain ⟨y, hy, rfl⟩ := List.mem_map.1 hz
    rw [ev.eq, decide_eq_true_eq] at e
    rw [← e]; exact hy
  · intro h
    exact ⟨_, List.mem_map.2 ⟨x, h, rfl⟩, by rw [ev.eq]; exact decide_eq_true rfl⟩
theorem lc_inT [DecidableEq τ1] {S2 : Stor (List τ1)} {fb : P1 → (List τ1 → P2 → Option Ω) → Option Ω} {n : Nat} (hu : X.A.units + 65 < cLine) (d1 : Dv S1 E1) (d2 : Dv S2 (eL E1)) (t : Dt E1 n) (ev : Ev E1) (ha : LO X G1 env a S1 e1 fa) (hb : ∀ p1, LO X (G2 p1) (e1 p1) b S2 (e2 p1) (fb p1)) (g1 : ∀ p1 p2, G1 (e2 p1 p2)) (g2 : ∀ p1 p2, G2 p1 (e2 p1 p2)) (hn : n + 1 ≤ 64 := by decide) :
    LC X env .In a b (fun p : P1 × P2 => e2 p.1 p.2) (fun k => fa fun x p1 => fb p1 fun y p2 => k (inB x y) (p1, p2)) :=
  lc_cmp (op_inD hu) ha hb g1 g2 fun K F H fp fq v u x y Q hK s r1 r2 q => by
    subst hK
    exact ⟨_, _, d1.dp s (t.lay x) r1, d2.dp s ((dtL t).lay y) r2, shaped_of (t.lay x) (Nat.le_trans (t.dep x) (by omega)), shaped_of ((dtL t).lay y) (Nat.le_trans ((dtL t).dep y) hn), by rw [any_in ev]; exact q⟩
theorem lc_notInT [DecidableEq τ1] {S2 : Stor (List τ1)} {fb : P1 → (List τ1 → P2 → Option Ω) → Option Ω} {n : Nat} (hu : X.A.units + 65 < cLine) (d1 : Dv S1 E1) (d2 : Dv S2 (eL E1)) (t : Dt E1 n) (ev : Ev E1) (ha : LO X G1 env a S1 e1 fa) (hb : ∀ p1, LO X (G2 p1) (e1 p1) b S2 (e2 p1) (fb p1)) (g1 : ∀ p1 p2, G1 (e2 p1 p2)) (g2 : ∀ p1 p2, G2 p1 (e2 p1 p2)) (hn : n + 1 ≤ 64 := by decide) :
    LC X env .NotIn a b (fun p : P1 × P2 => e2 p.1 p.2) (fun k => fa fun x p1 => fb p1 fun y p2 => k (!inB x y) (p1, p2)) :=
  lc_cmp (op_notInD hu) ha hb g1 g2 fun K F H fp fq v u x y Q hK s r1 r2 q => by
    subst hK
    exact ⟨_, _, d1.dp s (t.lay x) r1, d2.dp s ((dtL t).lay y) r2, shaped_of (t.lay x) (Nat.le_trans (t.dep x) (by omega)), shaped_of ((dtL t).lay y) (Nat.le_trans ((dtL t).dep y) hn), by rw [any_in ev]; exact q⟩
end
end Z

set_option Elab.async false
set_option linter.all false
set_option maxRecDepth 100000
namespace Z
open PySem PySem.Spec PyProof.Rows L2

/-! ### spans (y, first, last) in plain words -/
abbrev Sp3 := Int × Int × Int
/-- x, y lies in a span -/
def InS (R : List Sp3) (x y : Int) : Prop := ∃ s ∈ R, s.1 = y ∧ s.2.1 ≤ x ∧ x ≤ s.2.2
/-- in order, with gaps -/
def Can (R : List Sp3) : Prop := (∀ s ∈ R, s.2.1 ≤ s.2.2) ∧ R.Pairwise fun s t => s.1 < t.1 ∨ (s.1 = t.1 ∧ s.2.2 + 1 < t.2.1)
theorem InS.nil {x y : Int} : ¬ InS [] x y := fun ⟨_, m, _⟩ => nomatch m
theorem InS.cons {s : Sp3} {R : List Sp3} {x y : Int} : InS (s :: R) x y ↔ (s.1 = y ∧ s.2.1 ≤ x ∧ x ≤ s.2.2) ∨ InS R x y := by
  constructor
  · rintro ⟨t, m, h⟩
    rcases List.mem_cons.1 m with rfl | m
    · exact .inl h
    · exact .inr ⟨t, m, h⟩
  · rintro (h | ⟨t, m, h⟩)
    · exact ⟨s, List.mem_cons_self .., h⟩
    · exact ⟨t, List.mem_cons_of_mem _ m, h⟩
theorem InS.app {R S : List Sp3} {x y : Int} : InS (R ++ S) x y ↔ InS R x y ∨ InS S x y := by
  constructor
  · rintro ⟨t, m, h⟩
    rcases List.mem_append.1 m with m | m
    · exact .inl ⟨t, m, h⟩
    · exact .inr ⟨t, m, h⟩
  · rintro (⟨t, m, h⟩ | ⟨t, m, h⟩)
    · exact ⟨t, List.mem_append_left _ m, h⟩
    · exact ⟨t, List.mem_append_right _ m, h⟩
theorem Can.tail {s : Sp3} {R : List Sp3} (h : Can (s :: R)) : Can R := ⟨fun t m => h.1 t (List.mem_cons_of_mem _ m), (List.pairwise_cons.1 h.2).2⟩
theorem Can.out {s : Sp3} {R : List Sp3} {x : Int} (h : Can (s :: R)) : InS R x s.1 → s.2.2 + 1 < x := by
  rintro ⟨t, m, e, a, b⟩
  rcases (List.pairwise_cons.1 h.2).1 t m with q | ⟨_, q⟩
  · omega
  · omega
theorem Can.head {s : Sp3} {R : List Sp3} {x y : Int} (h : Can (s :: R)) : InS (s :: R) x y → s.1 < y ∨ (s.1 = y ∧ s.2.1 ≤ x) := by
  rintro ⟨t, m, e, a, b⟩
  rcases List.mem_cons.1 m with rfl | m
  · exact .inr ⟨e, a⟩
  · have v := h.1 s (List.mem_cons_self ..)
    rcases (List.pairwise_cons.1 h.2).1 t m with q | ⟨q1, q⟩
    · exact .inl (by omega)
    · exact .inr ⟨by omega, by omega⟩
/-- one normal form for one set of cells -/
theorem Can.uniq : ∀ {R S : List Sp3}, Can R → Can S → (∀ x y, InS R x y ↔ InS S x y) → R = S
  | [], [], _, _, _ => rfl
  | [], t :: S, _, hS, h => absurd ((h t.2.1 t.1).2 ⟨t, List.mem_cons_self .., rfl, Int.le_refl _, hS.1 t (List.mem_cons_self ..)⟩) InS.nil
  | s :: R, [], hR, _, h => absurd ((h s.2.1 s.1).1 ⟨s, List.mem_cons_self .., rfl, Int.le_refl _, hR.1 s (List.mem_cons_self ..)⟩) InS.nil
  | s :: R, t :: S, hR, hS, h => by
    have vs := hR.1 s (List.mem_cons_self ..)
    have vt := hS.1 t (List.mem_cons_self ..)
    have a1 := hS.head ((h s.2.1 s.1).1 ⟨s, List.mem_cons_self .., rfl, Int.le_refl _, vs⟩)
    have a2 := hR.head ((h t.2.1 t.1).2 ⟨t, List.mem_cons_self .., rfl, Int.le_refl _, vt⟩)
    have e1 : s.1 = t.1 := by omega
    have e2 : s.2.1 = t.2.1 := by omega
    have e3 : s.2.2 = t.2.2 := by
      rcases Int.lt_trichotomy s.2.2 t.2.2 with q | q | q
      · have := (h (s.2.2 + 1) s.1).2 ⟨t, List.mem_cons_self .., e1.symm, by omega, by omega⟩
        rcases InS.cons.1 this with z | z
        · omega
        · have := hR.out z; omega
      · exact q
      · have := (h (t.2.2 + 1) t.1).1 ⟨s, List.mem_cons_self .., e1, by omega, by omega⟩
        rcases InS.cons.1 this with z | z
        · omega
        · have := hS.out z; omega
    have est : s = t := Prod.ext e1 (Prod.ext e2 e3)
    subst est
    rw [Can.uniq hR.tail hS.tail fun x y => ?_]
    have hh := h x y
    rw [InS.cons, InS.cons] at hh
    constructor
    · intro z
      rcases hh.1 (.inr z) with q | q
      · have := hR.out (x := x) (by rw [q.1]; exact z); omega
      · exact q
    · intro z
      rcases hh.2 (.inr z) with q | q
      · have := hS.out (x := x) (by rw [q.1]; exact z); omega
      · exact q
/-- one span more, behind all others in order of (y, first) -/
def stepJ (R : List Sp3) (s : Sp3) : List Sp3 := match R.getLast? with
  | some l => if l.1 = s.1 ∧ s.2.1 ≤ l.2.2 + 1 then R.dropLast ++ [(s.1, l.2.1, max l.2.2 s.2.2)] else R ++ [(s.1, s.2.1, s.2.2)]
  | none => R ++ [(s.1, s.2.1, s.2.2)]
/-- all of R begins at or ahead of (y, x) -/
def Ahead (R : List Sp3) (y x : Int) : Prop := ∀ t ∈ R, t.1 < y ∨ (t.1 = y ∧ t.2.1 ≤ x)
theorem stepJ_ok {R : List Sp3} {s : Sp3} (h : Can R) (v : s.2.1 ≤ s.2.2) (ha : Ahead R s.1 s.2.1) :
    Can (stepJ R s) ∧ (∀ x y, InS (stepJ R s) x y ↔ InS R x y ∨ (s.1 = y ∧ s.2.1 ≤ x ∧ x ≤ s.2.2)) ∧ Ahead (stepJ R s) s.1 s.2.1 ∧ (stepJ R s).length ≤ R.length + 1 := by
  have fresh : (∀ l, R.getLast? = some l → ¬ (l.1 = s.1 ∧ s.2.1 ≤ l.2.2 + 1)) → Can (R ++ [s]) ∧ (∀ x y, InS (R ++ [s]) x y ↔ InS R x y ∨ (s.1 = y ∧ s.2.1 ≤ x ∧ x ≤ s.2.2)) ∧ Ahead (R ++ [s]) s.1 s.2.1 ∧ (R ++ [s]).length ≤ R.length + 1 := fun hl => by
    refine ⟨⟨fun t m => ?_, List.pairwise_append.2 ⟨h.2, List.pairwise_singleton .., fun t m u mu => ?_⟩⟩, fun x y => ?_, fun t m => ?_, by simp⟩
    · rcases List.mem_append.1 m with m | m
      · exact h.1 t m
      · rw [List.mem_singleton] at m; subst m; exact v
    · rw [List.mem_singleton] at mu; subst mu
      rcases ha t m with q | ⟨q1, q2⟩
      · exact .inl q
      · refine .inr ⟨q1, ?_⟩
        -- t is no later than the last
        rcases List.eq_nil_or_concat R with e | ⟨R', l, e⟩
        · subst e; cases m
        · subst e
          have nl := hl l (by simp)
          rw [List.concat_eq_append] at m h
          rcases List.mem_append.1 m with m | m
          · have o := (List.pairwise_append.1 h.2).2.2 t m l (by simp)
            have vl := h.1 l (by simp)
            have al := ha l (by simp)
            omega
          · rw [List.mem_singleton] at m; subst m
            omega
    · rw [InS.app, InS.cons]
      constructor
      · rintro (q | q | q)
        · exact .inl q
        · exact .inr q
        · exact absurd q InS.nil
      · rintro (q | q)
        · exact .inl q
        · exact .inr (.inl q)
    · rcases List.mem_append.1 m with m | m
      · exact ha t m
      · rw [List.mem_singleton] at m; subst m; exact .inr ⟨rfl, Int.le_refl _⟩
  unfold stepJ
  rcases List.eq_nil_or_concat R with e | ⟨R', l, e⟩
  · subst e
    exact fresh fun l z => by simp at z
  · subst e
    rw [List.concat_eq_append] at h ha fresh ⊢
    rw [show (R' ++ [l]).getLast? = some l by simp]
    dsimp only
    by_cases c : l.1 = s.1 ∧ s.2.1 ≤ l.2.2 + 1
    · rw [if_pos c, show (R' ++ [l]).dropLast = R' by simp]
      have vl := h.1 l (by simp)
      have al := ha l (by simp)
      have pw := List.pairwise_append.1 h.2
      refine ⟨⟨fun t m => ?_, List.pairwise_append.2 ⟨pw.1, List.pairwise_singleton .., fun t m u mu => ?_⟩⟩, fun x y => ?_, fun t m => ?_, by simp⟩
      · rcases List.mem_append.1 m with m | m
        · exact h.1 t (by simp [m])
        · rw [List.mem_singleton] at m; subst m; dsimp only; omega
      · rw [List.mem_singleton] at mu; subst mu
        have := pw.2.2 t m l (by simp)
        dsimp only; omega
      · rw [InS.app, InS.app, InS.cons, InS.cons]
        dsimp only
        constructor
        · rintro (q | q | q)
          · exact .inl (.inl q)
          · by_cases z : x ≤ l.2.2
            · exact .inl (.inr (.inl (by omega)))
            · exact .inr (by omega)
          · exact absurd q InS.nil
        · rintro ((q | q | q) | q)
          · exact .inl q
          · exact .inr (.inl (by omega))
          · exact absurd q InS.nil
          · exact .inr (.inl (by omega))
      · rcases List.mem_append.1 m with m | m
        · exact ha t (by simp [m])
        · rw [List.mem_singleton] at m; subst m; exact .inr ⟨rfl, by dsimp only; omega⟩
    · rw [if_neg c]
      exact fresh fun l' z => by simp at z; subst z; exact c
/-- a row of spans in order of (y, first): all of them, in normal form -/
theorem foldJ_ok : ∀ (L R : List Sp3), Can R → (∀ s ∈ L, s.2.1 ≤ s.2.2) → (∀ s ∈ L, Ahead R s.1 s.2.1) → L.Pairwise (fun s t => s.1 < t.1 ∨ (s.1 = t.1 ∧ s.2.1 ≤ t.2.1)) →
    Can (L.foldl stepJ R) ∧ (∀ x y, InS (L.foldl stepJ R) x y ↔ InS R x y ∨ InS L x y) ∧ (L.foldl stepJ R).length ≤ R.length + L.length
  | [], R, h, _, _, _ => ⟨h, fun x y => ⟨.inl, fun z => z.elim id fun q => absurd q InS.nil⟩, by simp⟩
  | s :: L, R, h, hv, ha, hp => by
    obtain ⟨p1, p2⟩ := List.pairwise_cons.1 hp
    obtain ⟨s1, s2, s3, s4⟩ := stepJ_ok h (hv s (List.mem_cons_self ..)) (ha s (List.mem_cons_self ..))
    obtain ⟨i1, i2, i3⟩ := foldJ_ok L (stepJ R s) s1 (fun t m => hv t (List.mem_cons_of_mem _ m)) (fun t m u mu => by
      have a := s3 u mu
      have b := p1 t m
      omega) p2
    refine ⟨i1, fun x y => ?_, by rw [List.length_cons]; show (L.foldl stepJ (stepJ R s)).length ≤ _; omega⟩
    show InS (L.foldl stepJ (stepJ R s)) x y ↔ _
    rw [i2, s2, InS.cons]
    constructor
    · rintro ((q | q) | q)
      · exact .inl q
      · exact .inr (.inl q)
      · exact .inr (.inr q)
    · rintro (q | q | q)
      · exact .inl (.inl q)
      · exact .inl (.inr q)
      · exact .inr q
end Z

set_option Elab.async false
set_option linter.all false
set_option maxRecDepth 100000
namespace Z
open PySem PySem.Spec PyProof.Rows L2

/-! ### sorting of pairs and triples; walks that grow -/
theorem forO_grow {α β Ω : Type} (g : List β → α → List β) (N : Nat) (hg : ∀ s x, (g s x).length ≤ s.length + 1) {b : α → List β → (List β → Option Ω) → Option Ω} {k : List β → Option Ω} : ∀ (xs : List α) (s : List β), s.length + xs.length ≤ N →
    (∀ x ∈ xs, ∀ s kc, s.length + 1 ≤ N → b x s kc = kc (g s x)) → forO xs s b k = k (xs.foldl g s)
  | [], s, _, _ => rfl
  | x :: xs, s, hl, h => by
    rw [List.length_cons] at hl
    refine (h x (List.mem_cons_self ..) s _ (by omega)).trans ?_
    have := hg s x
    exact forO_grow g N hg xs (g s x) (by omega) fun y m => h y (List.mem_cons_of_mem _ m)
theorem lt3_no {x y : Sp3} : lt3 ltI ltI ltI x y = false ↔ ¬(x.1 < y.1 ∨ (x.1 = y.1 ∧ (x.2.1 < y.2.1 ∨ (x.2.1 = y.2.1 ∧ x.2.2 < y.2.2)))) := by
  unfold lt3 ltI
  by_cases c : x.1 = y.1
  · rw [if_pos c]
    by_cases d : x.2.1 = y.2.1
    · rw [if_pos d, decide_eq_false_iff_not]; omega
    · rw [if_neg d, decide_eq_false_iff_not]; omega
  · rw [if_neg c, decide_eq_false_iff_not]; omega
theorem lt3_yes {x y : Sp3} : lt3 ltI ltI ltI x y = true ↔ (x.1 < y.1 ∨ (x.1 = y.1 ∧ (x.2.1 < y.2.1 ∨ (x.2.1 = y.2.1 ∧ x.2.2 < y.2.2)))) := by
  rw [← Bool.not_eq_false, lt3_no]
  exact Classical.not_not
theorem sort3_pw (l : List Sp3) : (sortB (lt3 ltI ltI ltI) l).Pairwise fun s t => s.1 < t.1 ∨ (s.1 = t.1 ∧ s.2.1 ≤ t.2.1) := by
  have := List.pairwise_mergeSort (le := fun x y : Sp3 => !lt3 ltI ltI ltI y x) (fun a b c h1 h2 => by
    simp only [Bool.not_eq_true'] at h1 h2 ⊢
    rw [lt3_no] at h1 h2 ⊢; omega) (fun a b => by
    cases h : lt3 ltI ltI ltI b a with
    | false => rfl
    | true =>
      have : lt3 ltI ltI ltI a b = false := by
        rw [lt3_yes] at h; rw [lt3_no]; omega
      rw [this]; rfl) l
  exact this.imp fun {a b} h => by
    have h' : lt3 ltI ltI ltI b a = false := by simpa using h
    rw [lt3_no] at h'; omega
theorem sort2_pw (l : List (Int × Int)) : (sortB lpp l).Pairwise fun s t => s.1 < t.1 ∨ (s.1 = t.1 ∧ s.2 ≤ t.2) := by
  have := List.pairwise_mergeSort (le := fun x y : Int × Int => !lpp y x) (fun a b c h1 h2 => by
    simp only [Bool.not_eq_true'] at h1 h2 ⊢
    rw [lpp_no] at h1 h2 ⊢; omega) (fun a b => by
    cases h : lpp b a with
    | false => rfl
    | true =>
      have : lpp a b = false := by
        rw [lpp_iff] at h; rw [lpp_no]; omega
      rw [this]; rfl) l
  exact this.imp fun {a b} h => by
    have h' : lpp b a = false := by simpa using h
    rw [lpp_no] at h'; omega
theorem sortB_mem {α : Type} {lt : α → α → Bool} {l : List α} {x : α} : x ∈ sortB lt l ↔ x ∈ l := (List.mergeSort_perm _ _).mem_iff
theorem sortB_len {α : Type} {lt : α → α → Bool} {l : List α} : (sortB lt l).length = l.length := (List.mergeSort_perm _ _).length_eq
theorem InS.same {R S : List Sp3} (h : ∀ s, s ∈ R ↔ s ∈ S) {x y : Int} : InS R x y ↔ InS S x y :=
  ⟨fun ⟨s, m, q⟩ => ⟨s, (h s).1 m, q⟩, fun ⟨s, m, q⟩ => ⟨s, (h s).2 m, q⟩⟩
theorem Can.nil : Can [] := ⟨fun _ m => (nomatch m), List.Pairwise.nil⟩
/-- the normal form of any spans -/
theorem norm_ok {L : List Sp3} (hv : ∀ s ∈ L, s.2.1 ≤ s.2.2) : Can ((sortB (lt3 ltI ltI ltI) L).foldl stepJ []) ∧ (∀ x y, InS ((sortB (lt3 ltI ltI ltI) L).foldl stepJ []) x y ↔ InS L x y) ∧ ((sortB (lt3 ltI ltI ltI) L).foldl stepJ []).length ≤ L.length := by
  obtain ⟨a, b, c⟩ := foldJ_ok (sortB (lt3 ltI ltI ltI) L) [] Can.nil (fun s m => hv s (sortB_mem.1 m)) (fun s _ t m => nomatch m) (sort3_pw L)
  refine ⟨a, fun x y => ?_, by rw [sortB_len] at c; simpa using c⟩
  rw [b, InS.same (fun s => sortB_mem)]
  exact ⟨fun z => z.elim (fun q => absurd q InS.nil) id, .inr⟩
/-- of cells, told as (y, x) -/
def spanOf (p : Int × Int) : Sp3 := (p.1, p.2, p.2)
theorem cells_ok {L : List (Int × Int)} : Can (((sortB lpp (L.map fun c => (c.2, c.1))).map spanOf).foldl stepJ []) ∧ (∀ x y, InS (((sortB lpp (L.map fun c => (c.2, c.1))).map spanOf).foldl stepJ []) x y ↔ (x, y) ∈ L) ∧ (((sortB lpp (L.map fun c => (c.2, c.1))).map spanOf).foldl stepJ []).length ≤ L.length := by
  obtain ⟨a, b, c⟩ := foldJ_ok ((sortB lpp (L.map fun c => (c.2, c.1))).map spanOf) [] Can.nil (fun s m => by
    obtain ⟨p, _, rfl⟩ := List.mem_map.1 m; exact Int.le_refl _) (fun s _ t m => nomatch m) (List.pairwise_map.2 ((sort2_pw _).imp fun h => h))
  refine ⟨a, fun x y => ?_, by rw [List.length_map, sortB_len, List.length_map] at c; simpa using c⟩
  rw [b]
  constructor
  · rintro (q | ⟨s, m, q⟩)
    · exact absurd q InS.nil
    · obtain ⟨p, mp, rfl⟩ := List.mem_map.1 m
      obtain ⟨d, md, rfl⟩ := List.mem_map.1 (sortB_mem.1 mp)
      have e : d = (x, y) := by
        simp only [spanOf] at q
        exact Prod.ext (by show d.1 = x; omega) q.1
      rw [← e]; exact md
  · intro m
    exact .inr ⟨(y, x, x), List.mem_map.2 ⟨(y, x), sortB_mem.2 (List.mem_map.2 ⟨(x, y), m, rfl⟩), rfl⟩, rfl, Int.le_refl _, Int.le_refl _⟩
theorem stepJ_len (R : List Sp3) (s : Sp3) : (stepJ R s).length ≤ R.length + 1 := by
  unfold stepJ
  rcases List.eq_nil_or_concat R with e | ⟨R', l, e⟩
  · subst e; simp
  · subst e
    rw [List.concat_eq_append, show (R' ++ [l]).getLast? = some l by simp]
    dsimp only
    split <;> simp
theorem ixN_last {α : Type} {l : List α} {a : α} : ixN (l ++ [a]).length (-(1 : Int)) = some l.length := by
  unfold ixN
  rw [if_neg (by decide), if_pos (by simp; omega)]
  have : (-(1 : Int) + ((l ++ [a]).length : Int)).toNat = l.length := by simp; omega
  rw [this]
theorem set_last {α : Type} {l : List α} {a b : α} : (l ++ [a]).set l.length b = l ++ [b] := by
  rw [List.set_append_right _ _ (Nat.le_refl _), Nat.sub_self]; rfl
/-- how the last of a row is looked at: the program's way -/
theorem stepJ_run {Ω : Type} {t : List Sp3} {x : Sp3} {kc : List Sp3 → Option Ω} (hl : t.length + 1 ≤ SZ) :
    (if (decide ((0 : Int) < (List.length t : Int))) = true then ((atI t (-(1 : Int))).bind fun y69 =>
      if (decide (y69.1 = x.1)) = true then ((atI t (-(1 : Int))).bind fun y75 =>
        if (decide (x.2.1 ≤ (y75.2.2 + (1 : Int)))) = true then ((atI t (-(1 : Int))).bind fun y83 =>
          (atI t (-(1 : Int))).bind fun y86 =>
          (ixN (List.length t) (-(1 : Int))).bind fun n94 => kc (List.set t n94 (x.1, y83.2.1, (max y86.2.2 x.2.2))))
        else ck (decide (List.length t < SZ)) (kc (t ++ [(x.1, x.2.1, x.2.2)])))
      else (if false = true then ((atI t (-(1 : Int))).bind fun y83 =>
          (atI t (-(1 : Int))).bind fun y86 =>
          (ixN (List.length t) (-(1 : Int))).bind fun n94 => kc (List.set t n94 (x.1, y83.2.1, (max y86.2.2 x.2.2)))) else ck (decide (List.length t < SZ)) (kc (t ++ [(x.1, x.2.1, x.2.2)]))))
    else (if false = true then ((atI t (-(1 : Int))).bind fun y83 =>
          (atI t (-(1 : Int))).bind fun y86 =>
          (ixN (List.length t) (-(1 : Int))).bind fun n94 => kc (List.set t n94 (x.1, y83.2.1, (max y86.2.2 x.2.2)))) else ck (decide (List.length t < SZ)) (kc (t ++ [(x.1, x.2.1, x.2.2)])))) = kc (stepJ t x) := by
  rw [decide_eq_true (show t.length < SZ by omega), ck_true]
  unfold stepJ
  rcases List.eq_nil_or_concat t with e | ⟨R', l, e⟩
  · subst e; rfl
  · subst e
    rw [List.concat_eq_append, show (R' ++ [l]).getLast? = some l by simp, show (R' ++ [l]).dropLast = R' by simp, if_pos (decide_eq_true (show (0 : Int) < ((R' ++ [l]).length : Int) by rw [List.length_append, List.length_singleton]; omega)), atI_last, ixN_last]
    simp only [Option.bind_some, set_last]
    by_cases c : l.1 = x.1
    · by_cases d : x.2.1 ≤ l.2.2 + 1
      · rw [if_pos (decide_eq_true c), if_pos (decide_eq_true d), if_pos ⟨c, d⟩]
      · rw [if_pos (decide_eq_true c), if_neg (by simpa using d), if_neg (fun z => d z.2)]
    · rw [if_neg (show ¬ (decide (l.1 = x.1) = true) from fun z => c (of_decide_eq_true z)), if_neg (show ¬ (false = true) by decide), if_neg (show ¬ (l.1 = x.1 ∧ x.2.1 ≤ l.2.2 + 1) from fun z => c z.1)]
end Z


namespace My
open PySem PySem.Spec PyProof.Rows L2 Z
def topS (i : Nat) : Stmt := PySem.Challenge.pw_cutwright_k31_whole_sweeps.main.body.getD i (.Pass ⟨0, 0, 0, 0⟩)
abbrev s_region_of : Stmt := topS 1
abbrev s_joint : Stmt := topS 2
abbrev s_united : Stmt := topS 3
abbrev s_common : Stmt := topS 4
abbrev s_less : Stmt := topS 5
abbrev s_swept : Stmt := topS 6
abbrev s_shrunk : Stmt := topS 7
abbrev s_opened : Stmt := topS 8
abbrev s_rest : Stmt := topS 9
abbrev s__law_draw : Stmt := topS 11
abbrev s__law_pick : Stmt := topS 12
abbrev s__law_blob : Stmt := topS 13
abbrev s__law_region : Stmt := topS 14
abbrev s__law_square : Stmt := topS 15
abbrev s__law_each : Stmt := topS 16
abbrev s__law_swept : Stmt := topS 17
abbrev s__law_shrunk : Stmt := topS 18
abbrev s_law : Stmt := topS 19
structure Fa (K : Fg) (mg : Str → Option Value) where
  f_region_of : Addr
  fd_region_of : FuncData
  F_region_of : Fun K "region_of" "region_of" s_region_of f_region_of fd_region_of
  g_region_of : mg "region_of" = some (.ref f_region_of)
  b_region_of : Binds K fd_region_of ["cells"] []
  f_joint : Addr
  fd_joint : FuncData
  F_joint : Fun K "joint" "joint" s_joint f_joint fd_joint
  g_joint : mg "joint" = some (.ref f_joint)
  b_joint : Binds K fd_joint ["spans"] []
  f_united : Addr
  fd_united : FuncData
  F_united : Fun K "united" "united" s_united f_united fd_united
  g_united : mg "united" = some (.ref f_united)
  b_united : Binds K fd_united ["one", "other"] []
  f_common : Addr
  fd_common : FuncData
  F_common : Fun K "common" "common" s_common f_common fd_common
  g_common : mg "common" = some (.ref f_common)
  b_common : Binds K fd_common ["one", "other"] []
  f_less : Addr
  fd_less : FuncData
  F_less : Fun K "less" "less" s_less f_less fd_less
  g_less : mg "less" = some (.ref f_less)
  b_less : Binds K fd_less ["one", "other"] []
  f_swept : Addr
  fd_swept : FuncData
  F_swept : Fun K "swept" "swept" s_swept f_swept fd_swept
  g_swept : mg "swept" = some (.ref f_swept)
  b_swept : Binds K fd_swept ["region", "side"] []
  f_shrunk : Addr
  fd_shrunk : FuncData
  F_shrunk : Fun K "shrunk" "shrunk" s_shrunk f_shrunk fd_shrunk
  g_shrunk : mg "shrunk" = some (.ref f_shrunk)
  b_shrunk : Binds K fd_shrunk ["region", "side"] []
  f_opened : Addr
  fd_opened : FuncData
  F_opened : Fun K "opened" "opened" s_opened f_opened fd_opened
  g_opened : mg "opened" = some (.ref f_opened)
  b_opened : Binds K fd_opened ["region", "side"] []
  f_rest : Addr
  fd_rest : FuncData
  F_rest : Fun K "rest" "rest" s_rest f_rest fd_rest
  g_rest : mg "rest" = some (.ref f_rest)
  b_rest : Binds K fd_rest ["region", "sides"] []
  f__law_draw : Addr
  fd__law_draw : FuncData
  F__law_draw : Fun K "_law_draw" "_law_draw" s__law_draw f__law_draw fd__law_draw
  g__law_draw : mg "_law_draw" = some (.ref f__law_draw)
  b__law_draw : Binds K fd__law_draw ["state", "script", "size"] []
  f__law_pick : Addr
  fd__law_pick : FuncData
  F__law_pick : Fun K "_law_pick" "_law_pick" s__law_pick f__law_pick fd__law_pick
  g__law_pick : mg "_law_pick" = some (.ref f__law_pick)
  b__law_pick : Binds K fd__law_pick ["state", "script", "items"] []
  f__law_blob : Addr
  fd__law_blob : FuncData
  F__law_blob : Fun K "_law_blob" "_law_blob" s__law_blob f__law_blob fd__law_blob
  g__law_blob : mg "_law_blob" = some (.ref f__law_blob)
  b__law_blob : Binds K fd__law_blob ["state", "script", "size"] []
  f__law_region : Addr
  fd__law_region : FuncData
  F__law_region : Fun K "_law_region" "_law_region" s__law_region f__law_region fd__law_region
  g__law_region : mg "_law_region" = some (.ref f__law_region)
  b__law_region : Binds K fd__law_region ["cells"] []
  f__law_square : Addr
  fd__law_square : FuncData
  F__law_square : Fun K "_law_square" "_law_square" s__law_square f__law_square fd__law_square
  g__law_square : mg "_law_square" = some (.ref f__law_square)
  b__law_square : Binds K fd__law_square ["cell", "side"] []
  f__law_each : Addr
  fd__law_each : FuncData
  F__law_each : Fun K "_law_each" "_law_each" s__law_each f__law_each fd__law_each
  g__law_each : mg "_law_each" = some (.ref f__law_each)
  b__law_each : Binds K fd__law_each ["cells"] []
  f__law_swept : Addr
  fd__law_swept : FuncData
  F__law_swept : Fun K "_law_swept" "_law_swept" s__law_swept f__law_swept fd__law_swept
  g__law_swept : mg "_law_swept" = some (.ref f__law_swept)
  b__law_swept : Binds K fd__law_swept ["cells", "side"] []
  f__law_shrunk : Addr
  fd__law_shrunk : FuncData
  F__law_shrunk : Fun K "_law_shrunk" "_law_shrunk" s__law_shrunk f__law_shrunk fd__law_shrunk
  g__law_shrunk : mg "_law_shrunk" = some (.ref f__law_shrunk)
  b__law_shrunk : Binds K fd__law_shrunk ["cells", "side"] []
  f_law : Addr
  fd_law : FuncData
  F_law : Fun K "law" "law" s_law f_law fd_law
  g_law : mg "law" = some (.ref f_law)
  b_law : Binds K fd_law ["script"] []
  z_int : mg "int" = none
  z_len : mg "len" = none
  z_max : mg "max" = none
  z_min : mg "min" = none
  z_range : mg "range" = none
  z_repr : mg "repr" = none
  z_sorted : mg "sorted" = none

def m_region_of (a_cells : (List (Int × Int))) : Option (List (Int × Int × Int)) :=
  let v_found_1 : (List (Int × Int × Int)) := ([] : (List (Int × Int × Int)))
  compO a_cells () (fun x5 (t4 : Unit) kc12 => (
    kc12 (some (x5.2, x5.1)) ())) [] fun (ys10 : List (Int × Int)) (t11 : Unit) => (
    (some (sortB (lt2 ltI ltI) ys10)).bind fun y13 =>
    forO y13 v_found_1 (fun x16 (t15 : (List (Int × Int × Int))) kc17 => (
      let k54 := fun z : Bool => (let k33 := fun j32 : (List (Int × Int × Int)) => (
        kc17 j32)
      if z = true then (
        (atI t15 (-(1 : Int))).bind fun y36 =>
        (atI t15 (-(1 : Int))).bind fun y39 =>
        (ixN (List.length t15) (-(1 : Int))).bind fun n47 =>
        let z46 : (List (Int × Int × Int)) := List.set t15 n47 (x16.1, y36.2.1, (max y39.2.2 x16.2))
        k33 z46)
      else (
        ck (decide (List.length t15 < SZ)) (
        let w53 : (List (Int × Int × Int)) := t15 ++ [(x16.1, x16.2, x16.2)]
        k33 w53)))
      if (decide ((0 : Int) < (List.length t15 : Int))) = true then ((atI t15 (-(1 : Int))).bind fun y22 =>
      let k55 := fun z : Bool => (k54 z)
      if (decide (y22.1 = x16.1)) = true then ((atI t15 (-(1 : Int))).bind fun y28 =>
      k55 (decide (x16.2 ≤ (y28.2.2 + (1 : Int))))) else k55 false) else k54 false))
      fun t56 : (List (Int × Int × Int)) => (
      some t56))
def m_joint (a_spans : (List (Int × Int × Int))) : Option (List (Int × Int × Int)) :=
  let v_found_58 : (List (Int × Int × Int)) := ([] : (List (Int × Int × Int)))
  (some (sortB (lt3 ltI ltI ltI) a_spans)).bind fun y60 =>
  forO y60 v_found_58 (fun x63 (t62 : (List (Int × Int × Int))) kc64 => (
    let k101 := fun z : Bool => (let k80 := fun j79 : (List (Int × Int × Int)) => (
      kc64 j79)
    if z = true then (
      (atI t62 (-(1 : Int))).bind fun y83 =>
      (atI t62 (-(1 : Int))).bind fun y86 =>
      (ixN (List.length t62) (-(1 : Int))).bind fun n94 =>
      let z93 : (List (Int × Int × Int)) := List.set t62 n94 (x63.1, y83.2.1, (max y86.2.2 x63.2.2))
      k80 z93)
    else (
      ck (decide (List.length t62 < SZ)) (
      let w100 : (List (Int × Int × Int)) := t62 ++ [(x63.1, x63.2.1, x63.2.2)]
      k80 w100)))
    if (decide ((0 : Int) < (List.length t62 : Int))) = true then ((atI t62 (-(1 : Int))).bind fun y69 =>
    let k102 := fun z : Bool => (k101 z)
    if (decide (y69.1 = x63.1)) = true then ((atI t62 (-(1 : Int))).bind fun y75 =>
    k102 (decide (x63.2.1 ≤ (y75.2.2 + (1 : Int))))) else k102 false) else k101 false))
    fun t103 : (List (Int × Int × Int)) => (
    some t103)
def m_united (a_one : (List (Int × Int × Int))) (a_other : (List (Int × Int × Int))) : Option (List (Int × Int × Int)) :=
  let z106 : (List (Int × Int × Int)) := a_one
  let z107 : (List (Int × Int × Int)) := a_other
  ck (decide (List.length z106 + List.length z107 ≤ SZ)) ((m_joint (z106 ++ z107)).bind fun r109 =>
  some r109)
def m_common (a_one : (List (Int × Int × Int))) (a_other : (List (Int × Int × Int))) : Option (List (Int × Int × Int)) :=
  let v_found_110 : (List (Int × Int × Int)) := ([] : (List (Int × Int × Int)))
  forO a_one v_found_110 (fun x114 (t113 : (List (Int × Int × Int))) kc115 => (
    forO a_other t113 (fun x119 (t118 : (List (Int × Int × Int))) kc120 => (
      let k138 := fun z : Bool => (let k129 := fun j128 : (List (Int × Int × Int)) => (
        kc120 j128)
      if z = true then (
        ck (decide (List.length t118 < SZ)) (
        let w137 : (List (Int × Int × Int)) := t118 ++ [(x114.1, (max x114.2.1 x119.2.1), (min x114.2.2 x119.2.2))]
        k129 w137))
      else (
        k129 t118))
      if (decide (x119.1 = x114.1)) = true then (let k139 := fun z : Bool => (k138 z)
      if (decide (x119.2.1 ≤ x114.2.2)) = true then (k139 (decide (x114.2.1 ≤ x119.2.2))) else k139 false) else k138 false))
      fun t140 : (List (Int × Int × Int)) => (
      kc115 t140)))
    fun t142 : (List (Int × Int × Int)) => (
    (m_joint t142).bind fun r144 =>
    some r144)
def m_less (a_one : (List (Int × Int × Int))) (a_other : (List (Int × Int × Int))) : Option (List (Int × Int × Int)) :=
  let v_found_146 : (List (Int × Int × Int)) := ([] : (List (Int × Int × Int)))
  forO a_one v_found_146 (fun x150 (t149 : (List (Int × Int × Int))) kc151 => (
    let v_start_153 : Int := x150.2.1
    forO a_other (t149, v_start_153) (fun x157 (t156 : ((List (Int × Int × Int)) × Int)) kc158 => (
      let k183 := fun z : Bool => (let k167 := fun j166 : ((List (Int × Int × Int)) × Int) => (
        kc158 (j166.1, j166.2))
      if z = true then (
        let k171 := fun j170 : (List (Int × Int × Int)) => (
          let v_start_181 : Int := (max t156.2 (x157.2.2 + (1 : Int)))
          k167 (j170, v_start_181))
        if (decide (t156.2 < x157.2.1)) = true then (
          ck (decide (List.length t156.1 < SZ)) (
          let w178 : (List (Int × Int × Int)) := t156.1 ++ [(x150.1, t156.2, (x157.2.1 - (1 : Int)))]
          k171 w178))
        else (
          k171 t156.1))
      else (
        k167 (t156.1, t156.2)))
      if (decide (x157.1 = x150.1)) = true then (let k184 := fun z : Bool => (k183 z)
      if (decide (x157.2.1 ≤ x150.2.2)) = true then (k184 (decide (t156.2 ≤ x157.2.2))) else k184 false) else k183 false))
      fun t185 : ((List (Int × Int × Int)) × Int) => (
      let k189 := fun j188 : (List (Int × Int × Int)) => (
        kc151 j188)
      if (decide (t185.2 ≤ x150.2.2)) = true then (
        ck (decide (List.length t185.1 < SZ)) (
        let w195 : (List (Int × Int × Int)) := t185.1 ++ [(x150.1, t185.2, x150.2.2)]
        k189 w195))
      else (
        k189 t185.1))))
    fun t197 : (List (Int × Int × Int)) => (
    (m_joint t197).bind fun r199 =>
    some r199)
def m_swept (a_region : (List (Int × Int × Int))) (a_side : Int) : Option (List (Int × Int × Int)) :=
  let v_found_201 : (List (Int × Int × Int)) := ([] : (List (Int × Int × Int)))
  ck (rgOk 0 a_side) (forO (rangeL 0 a_side) v_found_201 (fun x205 (t204 : (List (Int × Int × Int))) kc206 => (
    compO a_region () (fun x211 (t210 : Unit) kc222 => (
      kc222 (some ((x211.1 + x205), x211.2.1, ((x211.2.2 + a_side) - (1 : Int)))) ())) [] fun (ys220 : List (Int × Int × Int)) (t221 : Unit) => (
      let z223 : (List (Int × Int × Int)) := t204
      let z224 : (List (Int × Int × Int)) := ys220
      ck (decide (List.length z223 + List.length z224 ≤ SZ)) (let v_found_225 : (List (Int × Int × Int)) := (z223 ++ z224)
      kc206 v_found_225))))
    fun t227 : (List (Int × Int × Int)) => (
    (m_joint t227).bind fun r229 =>
    some r229))
def m_shrunk (a_region : (List (Int × Int × Int))) (a_side : Int) : Option (List (Int × Int × Int)) :=
  compO a_region () (fun x233 (t232 : Unit) kc248 => (
    if (decide (a_side ≤ ((x233.2.2 - x233.2.1) + (1 : Int)))) = true then (kc248 (some (x233.1, x233.2.1, ((x233.2.2 - a_side) + (1 : Int)))) ()) else kc248 none ())) [] fun (ys246 : List (Int × Int × Int)) (t247 : Unit) => (
    let v_found_249 : (List (Int × Int × Int)) := ys246
    ck (rgOk (1 : Int) a_side) (forO (rangeL (1 : Int) a_side) v_found_249 (fun x254 (t253 : (List (Int × Int × Int))) kc255 => (
      compO a_region () (fun x259 (t258 : Unit) kc275 => (
        if (decide (a_side ≤ ((x259.2.2 - x259.2.1) + (1 : Int)))) = true then (kc275 (some ((x259.1 - x254), x259.2.1, ((x259.2.2 - a_side) + (1 : Int)))) ()) else kc275 none ())) [] fun (ys273 : List (Int × Int × Int)) (t274 : Unit) => (
        let v_rows_276 : (List (Int × Int × Int)) := ys273
        (m_common t253 v_rows_276).bind fun r280 =>
        let v_found_281 : (List (Int × Int × Int)) := r280
        kc255 v_found_281)))
      fun t283 : (List (Int × Int × Int)) => (
      (m_joint t283).bind fun r285 =>
      some r285)))
def m_opened (a_region : (List (Int × Int × Int))) (a_side : Int) : Option (List (Int × Int × Int)) :=
  (m_shrunk a_region a_side).bind fun r289 =>
  (m_swept r289 a_side).bind fun r292 =>
  some r292
def m_rest (a_region : (List (Int × Int × Int))) (a_sides : (List Int)) : Option (List (Int × Int × Int)) :=
  let v_reached_293 : (List (Int × Int × Int)) := ([] : (List (Int × Int × Int)))
  forO a_sides v_reached_293 (fun x297 (t296 : (List (Int × Int × Int))) kc298 => (
    (m_opened a_region x297).bind fun r303 =>
    (m_united t296 r303).bind fun r305 =>
    let v_reached_306 : (List (Int × Int × Int)) := r305
    kc298 v_reached_306))
    fun t308 : (List (Int × Int × Int)) => (
    (m_less a_region t308).bind fun r311 =>
    some r311)
def m__law_draw (t0 : (List Int)) (a_script : List Int) (a_size : Int) : Option (Int × (List Int)) :=
  (atI t0 (1 : Int)).bind fun y314 =>
  let k318 := fun j317 : (List Int) => (
    (atI j317 (1 : Int)).bind fun y394 =>
    ck (modOk a_size) (let v_digit_396 : Int := (Int.fmod y394 a_size)
    (atI j317 (1 : Int)).bind fun y399 =>
    ck (divOk a_size) ((ixN (List.length j317) (1 : Int)).bind fun n406 =>
    let z405 : (List Int) := List.set j317 n406 (Int.fdiv y399 a_size)
    some (v_digit_396, z405))))
  if (decide (y314 = (0 : Int))) = true then (
    let v_cell_319 : Int := (0 : Int)
    let k324 := fun j323 : Int => (
      let k335 := fun j334 : Int => (
        (atI t0 (0 : Int)).bind fun y346 =>
        ck (mulOk y346 (7919 : Int)) (ck (mulOk ((j334 + (y346 * (7919 : Int))) + (1 : Int)) (48271 : Int)) (ck (modOk (2147483647 : Int)) (let v_mixed_351 : Int := (Int.fmod (((j334 + (y346 * (7919 : Int))) + (1 : Int)) * (48271 : Int)) (2147483647 : Int))
        ck (mulOk v_mixed_351 (69621 : Int)) ((atI t0 (0 : Int)).bind fun y357 =>
        ck (mulOk y357 (104729 : Int)) (ck (modOk (4294967291 : Int)) ((ixN (List.length t0) (1 : Int)).bind fun n392 =>
        let z364 : (List Int) := List.set t0 n392 (Int.fmod ((v_mixed_351 * (69621 : Int)) + (y357 * (104729 : Int))) (4294967291 : Int))
        ck (powOk (10 : Int) (18 : Int)) (let k391 := fun z : Bool => (let k373 := fun j372 : (List Int) => (
          (atI j372 (0 : Int)).bind fun y383 =>
          (ixN (List.length j372) (0 : Int)).bind fun n390 =>
          let z389 : (List Int) := List.set j372 n390 (y383 + (1 : Int))
          k318 z389)
        if z = true then (
          (ixN (List.length z364) (1 : Int)).bind fun n379 =>
          let z378 : (List Int) := List.set z364 n379 j334
          k373 z378)
        else (
          k373 z364))
        if (decide (((10 : Int) ^ Int.toNat (18 : Int)) ≤ j334)) = true then ((atI z364 (0 : Int)).bind fun y369 =>
        k391 (decide (y369 < (List.length a_script : Int)))) else k391 false))))))))
      if (decide (j323 < (0 : Int))) = true then (
        ck (mulOk (2 : Int) j323) (let v_cell_338 : Int := ((1 : Int) - ((2 : Int) * j323))
        k335 v_cell_338))
      else (
        k335 j323))
    if (decide ((0 : Int) < (List.length a_script : Int))) = true then (
      (atI t0 (0 : Int)).bind fun y327 =>
      ck (modOk (List.length a_script : Int)) ((atI a_script (Int.fmod y327 (List.length a_script : Int))).bind fun y329 =>
      let v_cell_330 : Int := y329
      k324 v_cell_330))
    else (
      k324 v_cell_319))
  else (
    k318 t0)
def m__law_blob (t0 : (List Int)) (a_script : List Int) (a_size : Int) : Option ((List (Int × Int)) × (List Int)) :=
  let v_cells_407 : (List (Int × Int)) := ([] : (List (Int × Int)))
  (m__law_draw t0 a_script (3 : Int)).bind fun r412 =>
  let v_dense_413 : Int := ((1 : Int) + r412.1)
  ck (rgOk 0 a_size) (forO (rangeL 0 a_size) (r412.2, v_cells_407) (fun x417 (t416 : ((List Int) × (List (Int × Int)))) kc418 => (
    ck (rgOk 0 a_size) (forO (rangeL 0 a_size) (t416.1, t416.2) (fun x422 (t421 : ((List Int) × (List (Int × Int)))) kc423 => (
      (m__law_draw t421.1 a_script (4 : Int)).bind fun r427 =>
      let k431 := fun j430 : ((List Int) × (List (Int × Int))) => (
        kc423 (j430.1, j430.2))
      if (decide (r427.1 < v_dense_413)) = true then (
        ck (decide (List.length t421.2 < SZ)) (
        let w436 : (List (Int × Int)) := t421.2 ++ [(x422, x417)]
        k431 (r427.2, w436)))
      else (
        k431 (r427.2, t421.2))))
      fun t437 : ((List Int) × (List (Int × Int))) => (
      kc418 (t437.1, t437.2)))))
    fun t439 : ((List Int) × (List (Int × Int))) => (
    some (t439.2, t439.1)))
def m__law_region (a_cells : (List (Int × Int))) : Option (List (Int × Int × Int)) :=
  let v_found_441 : (List (Int × Int × Int)) := ([] : (List (Int × Int × Int)))
  compO a_cells () (fun x445 (t444 : Unit) kc452 => (
    kc452 (some (x445.2, x445.1)) ())) [] fun (ys450 : List (Int × Int)) (t451 : Unit) => (
    (some (sortB (lt2 ltI ltI) ys450)).bind fun y453 =>
    forO y453 v_found_441 (fun x456 (t455 : (List (Int × Int × Int))) kc457 => (
      let k503 := fun z : Bool => (let k471 := fun j470 : (List (Int × Int × Int)) => (
        kc457 j470)
      if z = true then (
        (atI t455 (-(1 : Int))).bind fun y474 =>
        (ixN (List.length t455) (-(1 : Int))).bind fun n482 =>
        let z481 : (List (Int × Int × Int)) := List.set t455 n482 (x456.1, y474.2.1, x456.2)
        k471 z481)
      else (
        let k501 := fun z : Bool => (let k494 := fun j493 : (List (Int × Int × Int)) => (
          k471 j493)
        if z = true then (
          ck (decide (List.length t455 < SZ)) (
          let w500 : (List (Int × Int × Int)) := t455 ++ [(x456.1, x456.2, x456.2)]
          k494 w500))
        else (
          k494 t455))
        if (decide ((List.length t455 : Int) = (0 : Int))) = true then k501 true else ((atI t455 (-(1 : Int))).bind fun y486 =>
        let k502 := fun z : Bool => (k501 z)
        if (!decide (y486.1 = x456.1)) = true then k502 true else ((atI t455 (-(1 : Int))).bind fun y490 =>
        k502 (!decide (y490.2.2 = x456.2))))))
      if (decide ((0 : Int) < (List.length t455 : Int))) = true then ((atI t455 (-(1 : Int))).bind fun y462 =>
      let k504 := fun z : Bool => (k503 z)
      if (decide (y462.1 = x456.1)) = true then ((atI t455 (-(1 : Int))).bind fun y466 =>
      k504 (decide (y466.2.2 = (x456.2 - (1 : Int))))) else k504 false) else k503 false))
      fun t505 : (List (Int × Int × Int)) => (
      some t505))
def m__law_square (a_cell : (Int × Int)) (a_side : Int) : Option (List (Int × Int)) :=
  let v_found_507 : (List (Int × Int)) := ([] : (List (Int × Int)))
  ck (rgOk 0 a_side) (forO (rangeL 0 a_side) v_found_507 (fun x511 (t510 : (List (Int × Int))) kc512 => (
    ck (rgOk 0 a_side) (compO (rangeL 0 a_side) () (fun x517 (t516 : Unit) kc526 => (
      kc526 (some ((a_cell.1 + x511), (a_cell.2 + x517))) ())) [] fun (ys524 : List (Int × Int)) (t525 : Unit) => (
      let z527 : (List (Int × Int)) := t510
      let z528 : (List (Int × Int)) := ys524
      ck (decide (List.length z527 + List.length z528 ≤ SZ)) (let v_found_529 : (List (Int × Int)) := (z527 ++ z528)
      kc512 v_found_529)))))
    fun t531 : (List (Int × Int)) => (
    some t531))
def m__law_each (a_cells : (List (Int × Int))) : Option (List (Int × Int)) :=
  (some (sortB (lt2 ltI ltI) a_cells)).bind fun y533 =>
  let v_found_534 : (List (Int × Int)) := y533
  ck (rgOk 0 (List.length v_found_534 : Int)) (compO (rangeL 0 (List.length v_found_534 : Int)) () (fun x538 (t537 : Unit) kc553 => (
    let k554 := fun z : Bool => (if z = true then ((atI v_found_534 x538).bind fun y549 =>
    kc553 (some y549) ()) else kc553 none ())
    if (decide (x538 = (0 : Int))) = true then k554 true else ((atI v_found_534 x538).bind fun y542 =>
    (atI v_found_534 (x538 - (1 : Int))).bind fun y546 =>
    k554 (!decide (y542 = y546))))) [] fun (ys551 : List (Int × Int)) (t552 : Unit) => (
    some ys551))
def m__law_swept (a_cells : (List (Int × Int))) (a_side : Int) : Option (List (Int × Int)) :=
  let v_found_555 : (List (Int × Int)) := ([] : (List (Int × Int)))
  forO a_cells v_found_555 (fun x559 (t558 : (List (Int × Int))) kc560 => (
    (m__law_square x559 a_side).bind fun r565 =>
    let z566 : (List (Int × Int)) := t558
    let z567 : (List (Int × Int)) := r565
    ck (decide (List.length z566 + List.length z567 ≤ SZ)) (let v_found_568 : (List (Int × Int)) := (z566 ++ z567)
    kc560 v_found_568)))
    fun t570 : (List (Int × Int)) => (
    (m__law_each t570).bind fun r572 =>
    some r572)
def m__law_shrunk (a_cells : (List (Int × Int))) (a_side : Int) : Option (List (Int × Int)) :=
  compO a_cells () (fun x576 (t575 : Unit) kc594 => (
    (m__law_square x576 a_side).bind fun r579 =>
    compO r579 () (fun x582 (t581 : Unit) kc588 => (
      if (!inB x582 a_cells) = true then (kc588 (some x582) ()) else kc588 none ())) [] fun (ys586 : List (Int × Int)) (t587 : Unit) => (
      if (decide ((List.length ys586 : Int) = (0 : Int))) = true then (kc594 (some x576) ()) else kc594 none ()))) [] fun (ys592 : List (Int × Int)) (t593 : Unit) => (
    some ys592)
def m_law (a_script : List Int) : Option Bool :=
  let v_state_597 : (List Int) := [(0 : Int), (0 : Int)]
  (m__law_draw v_state_597 a_script (7 : Int)).bind fun r603 =>
  (m__law_blob r603.2 a_script ((1 : Int) + r603.1)).bind fun r605 =>
  let v_cells_606 : (List (Int × Int)) := r605.1
  (m_region_of v_cells_606).bind fun r609 =>
  let v_region_610 : (List (Int × Int × Int)) := r609
  (reprO ((eL (eT3 eI eI eI)).enc v_region_610)).bind fun y612 =>
  let v_kept_613 : Str := y612
  let v_reached_615 : (List (Int × Int)) := ([] : (List (Int × Int)))
  (m__law_draw r605.2 a_script (3 : Int)).bind fun r619 =>
  ck (rgOk 0 r619.1) (compO (rangeL 0 r619.1) r619.2 (fun x622 (t621 : (List Int)) kc631 => (
    (m__law_draw t621 a_script (4 : Int)).bind fun r627 =>
    kc631 (some ((1 : Int) + r627.1)) r627.2)) [] fun (ys629 : List Int) (t630 : (List Int)) => (
    let v_sides_632 : (List Int) := ys629
    let z638 : (List Int) := v_sides_632
    let z639 : (List Int) := [(1 : Int), (2 : Int), (3 : Int)]
    ck (decide (List.length z638 + List.length z639 ≤ SZ)) (forO (z638 ++ z639) () (fun x642 (t641 : Unit) kc643 => (
      (m__law_shrunk v_cells_606 x642).bind fun r647 =>
      let v_small_648 : (List (Int × Int)) := r647
      (m_swept v_region_610 x642).bind fun r652 =>
      (m__law_swept v_cells_606 x642).bind fun r656 =>
      (m__law_region r656).bind fun r658 =>
      let k677 := fun z : Bool => (if z = true then (
        some false)
      else (
        (m_opened v_region_610 x642).bind fun r669 =>
        (m__law_swept v_small_648 x642).bind fun r673 =>
        (m__law_region r673).bind fun r675 =>
        if (!decide (r669 = r675)) = true then (
          some false)
        else (
          kc643 ())))
      if (!decide (r652 = r658)) = true then k677 true else ((m_shrunk v_region_610 x642).bind fun r662 =>
      (m__law_region v_small_648).bind fun r665 =>
      k677 (!decide (r662 = r665)))))
      fun t678 : Unit => (
      forO v_sides_632 v_reached_615 (fun x681 (t680 : (List (Int × Int))) kc682 => (
        (m__law_shrunk v_cells_606 x681).bind fun r687 =>
        (m__law_swept r687 x681).bind fun r690 =>
        let z691 : (List (Int × Int)) := t680
        let z692 : (List (Int × Int)) := r690
        ck (decide (List.length z691 + List.length z692 ≤ SZ)) (let v_reached_693 : (List (Int × Int)) := (z691 ++ z692)
        kc682 v_reached_693)))
        fun t695 : (List (Int × Int)) => (
        (m_rest v_region_610 v_sides_632).bind fun r698 =>
        compO v_cells_606 () (fun x702 (t701 : Unit) kc708 => (
          if (!inB x702 t695) = true then (kc708 (some x702) ()) else kc708 none ())) [] fun (ys706 : List (Int × Int)) (t707 : Unit) => (
          (m__law_region ys706).bind fun r710 =>
          let k714 := fun z : Bool => (some z)
          if (decide (r698 = r710)) = true then ((reprO ((eL (eT3 eI eI eI)).enc v_region_610)).bind fun y712 =>
          k714 (decide (y712 = v_kept_613))) else k714 false))))))
section
variable {P : Program} {w : World} {K : Fg} {mg : Str → Option Value} {base : Heap}
abbrev n_region_of : List Str := ["cells", "found", "y", "x", "cell"]
theorem sc_region_of : FnScope n_region_of ["cells"] (defScope s_region_of) := ⟨rfl, rfl, rfl, by decide +kernel, rfl, by decide +kernel, by decide +kernel⟩
abbrev sp_region_of (K : Fg) : Sp := spP K (fun a : (List (Int × Int)) × Unit => [.st none (List (Int × Int)) (it (eL (eT2 eI eI))) a.1]) (it (eL (eT3 eI eI eI))) (fun a => m_region_of a.1)
set_option maxHeartbeats 0 in
theorem ok_region_of (fa : Fa K mg) : FnOk P w K mg base CX0 1 fa.f_region_of fa.fd_region_of ["cells"] (sp_region_of K) := by
  refine fnP fa.F_region_of sc_region_of 4 rfl (fun _ => rfl) fun cdv A' outer s H E hr => ?_
  have nd := sc_region_of.nd
  have hu := hr.units
  have hu5 : (A'.deeper (envOfC "region_of" (defScope s_region_of) s.heap.objs.size fa.f_region_of cdv)).units + 65 < cLine := by have := hr.un; omega
  rintro ⟨a_cells, _⟩
  exact lb_use (env := [.st none (List (Int × Int)) (it (eL (eT2 eI eI))) a_cells, .un, .un, .un, .un])
    (lb_set 1 nd (lx_list la_nil (eT3 eI eI eI) (fun _ => []) (fun _ => .nil)) (fun v_found_1 p2 => (lb_for (envT := (fun t15 : (List (Int × Int × Int)) => [.st none (List (Int × Int)) (it (eL (eT2 eI eI))) a_cells, .st none (List (Int × Int × Int)) (ls (it (eT3 eI eI eI))) t15, .un, .un, .un])) PassesOwn.never rfl (li_list lm_ow.w (lx_sorted hu (odT2 evI odI odI) soT2 (dtT2 dtI dtI) lm_ow.w fa.z_sorted (lo_of (lx_lc (envT := (fun t4 : Unit => [.st none (List (Int × Int)) (it (eL (eT2 eI eI))) a_cells, .st none (List (Int × Int × Int)) (ls (it (eT3 eI eI eI))) v_found_1, .un, .un, .un])) rfl nd (blkOk_by (N := n_region_of) (sc := defScope s_region_of) (own := [("cell", 4)]) (by decide +kernel)) (li_list lm_sh.w (lx_var 0 cp_it rfl)) (fun p3 => ()) (fun p3 => (Sub.refl _)) (by intro t i s hm he; simp at hm; subst hm; (have e := Option.some.inj he; exact e.symm)) (fun _ _ _ _ _ t4 => (lg_name 4 nd)) (fun _ _ _ _ _ t4 x5 => ltl_nil) (fun _ _ _ _ _ t4 x5 p6 => (lx_tup (la_cons (lx_part part2_1 (lx_var 4 cp_it rfl)) (fun p7 => (la_cons (lx_part part2_0 (lx_var 4 cp_it rfl)) (fun p8 => la_nil)))) (eT2 eI eI) (fun a : Int × Int × Unit => (a.1, a.2.1)) (fun a => [eI.enc a.1, eI.enc a.2.1]) (fun _ => (.cons (.cons .nil))) (fun _ => rfl))) (fun t4 x5 p6 p9 => ()) (fun t4 x5 p6 p9 => by exact (.keep (.keep (.keep (.keep (.drop Sub.nil)))))) (fun t4 x5 p6 => ()) (fun t4 x5 p6 => by exact (.keep (.keep (.keep (.keep (.drop Sub.nil)))))))) (fun _ => trivial))) (fun p14 => v_found_1) (fun p14 => (Sub.refl _)) (fun t15 => (lg_tup (E := (eT2 eI eI)) (lgs_cons (lg_name 2 nd) (fun _ => (lgs_cons (lg_name 3 nd) (fun _ => lgs_nil)))) (fun x => (x.1, x.2, ())) (fun a : Int × Int × Unit => [eI.enc (a.1), eI.enc (a.2.1)]) (fun _ => (.cons (.cons .nil))) (fun _ => rfl) rfl (fun _ => rfl))) (fun x16 t15 kc17 kb18 => (lb_if (env1 := (fun j32 : (List (Int × Int × Int)) => [.st none (List (Int × Int)) (it (eL (eT2 eI eI))) a_cells, .st none (List (Int × Int × Int)) (ls (it (eT3 eI eI eI))) j32, .st none Int (it eI) x16.1, .st none Int (it eI) x16.2, .un])) (lt_w (lw_and (lt_cmp (lc_gt (lx_len lm_ow.w fa.z_len (lo_var 1 rfl) (fun _ => rfl)) (fun p19 => lx_int)) (nomark _)) (fun p20 => (lw_and (lt_cmp (lc_eqI (lx_part part3_0 (lx_ix lm_ow.w (lo_var 1 rfl) (fun p21 => (lx_neg lx_int)) (fun _ _ => rfl))) (fun p23 => (lx_var 2 cp_it rfl))) (nomark _)) (fun p24 => (lw_and1 (lt_cmp (lc_ge (lx_add (lx_part part3_2 (lx_ix lm_ow.w (lo_var 1 rfl) (fun p27 => (lx_neg lx_int)) (fun _ _ => rfl))) (fun p29 => lx_int)) (fun p30 => (lx_var 3 cp_it rfl))) (nomark _)))) (fun p24 _ => Sub.refl _))) (fun p20 _ => Sub.refl _))) (fun p31 => (lb_setix 1 (lx_tup (la_cons (lx_var 2 cp_it rfl) (fun p34 => (la_cons (lx_part part3_1 (lx_ix lm_ow.w (lo_var 1 rfl) (fun p35 => (lx_neg lx_int)) (fun _ _ => rfl))) (fun p37 => (la_cons (lx_max2 rfl fa.z_max (lx_part part3_2 (lx_ix lm_ow.w (lo_var 1 rfl) (fun p38 => (lx_neg lx_int)) (fun _ _ => rfl))) (fun p40 => (lx_var 3 cp_it rfl))) (fun p41 => la_nil)))))) (eT3 eI eI eI) (fun a : Int × Int × Int × Unit => (a.1, a.2.1, a.2.2.1)) (fun a => [eI.enc a.1, eI.enc a.2.1, eI.enc a.2.2.1]) (fun _ => (.cons (.cons (.cons .nil)))) (fun _ => rfl)) (fun _ => rfl) (fun y42 p43 => (lx_neg lx_int)) (fun _ _ _ => rfl) (fun y42 p43 j44 p45 z46 => (lb_end z46 (Sub.refl _))))) (fun p31 => (lb_app 1 rfl (lx_tup (la_cons (lx_var 2 cp_it rfl) (fun p50 => (la_cons (lx_var 3 cp_it rfl) (fun p51 => (la_cons (lx_var 3 cp_it rfl) (fun p52 => la_nil)))))) (eT3 eI eI eI) (fun a : Int × Int × Int × Unit => (a.1, a.2.1, a.2.2.1)) (fun a => [eI.enc a.1, eI.enc a.2.1, eI.enc a.2.2.1]) (fun _ => (.cons (.cons (.cons .nil)))) (fun _ => rfl)) (fun _ => rfl) (fun y49 p48 => (lb_end (t15 ++ [y49]) (Sub.refl _))))) (fun j32 => (lb_end j32 (.keep (.keep (.drop (.drop (.keep Sub.nil))))))))) (fun t56 => (lb_ret (lx_frz 1 (fz_ls fz_it) rfl) (fun _ => ()) (fun p => (.drop (.drop (.keep (.keep (.keep Sub.nil)))))))))))
    (by first | (unfold m_region_of; dsimp only [id]; done) | (unfold m_region_of; dsimp only [id]; rfl) | rfl)
abbrev n_joint : List Str := ["spans", "found", "y", "first", "last"]
theorem sc_joint : FnScope n_joint ["spans"] (defScope s_joint) := ⟨rfl, rfl, rfl, by decide +kernel, rfl, by decide +kernel, by decide +kernel⟩
abbrev sp_joint (K : Fg) : Sp := spP K (fun a : (List (Int × Int × Int)) × Unit => [.st none (List (Int × Int × Int)) (it (eL (eT3 eI eI eI))) a.1]) (it (eL (eT3 eI eI eI))) (fun a => m_joint a.1)
set_option maxHeartbeats 0 in
theorem ok_joint (fa : Fa K mg) : FnOk P w K mg base CX0 1 fa.f_joint fa.fd_joint ["spans"] (sp_joint K) := by
  refine fnP fa.F_joint sc_joint 4 rfl (fun _ => rfl) fun cdv A' outer s H E hr => ?_
  have nd := sc_joint.nd
  have hu := hr.units
  have hu5 : (A'.deeper (envOfC "joint" (defScope s_joint) s.heap.objs.size fa.f_joint cdv)).units + 65 < cLine := by have := hr.un; omega
  rintro ⟨a_spans, _⟩
  exact lb_use (env := [.st none (List (Int × Int × Int)) (it (eL (eT3 eI eI eI))) a_spans, .un, .un, .un, .un])
    (lb_set 1 nd (lx_list la_nil (eT3 eI eI eI) (fun _ => []) (fun _ => .nil)) (fun v_found_58 p59 => (lb_for (envT := (fun t62 : (List (Int × Int × Int)) => [.st none (List (Int × Int × Int)) (it (eL (eT3 eI eI eI))) a_spans, .st none (List (Int × Int × Int)) (ls (it (eT3 eI eI eI))) t62, .un, .un, .un])) PassesOwn.never rfl (li_list lm_ow.w (lx_sorted hu (odT3 evI evI odI odI odI) soT3 (dtT3 dtI dtI dtI) lm_sh.w fa.z_sorted (lo_of (lx_var 0 cp_it rfl)) (fun _ => trivial))) (fun p61 => v_found_58) (fun p61 => (Sub.refl _)) (fun t62 => (lg_tup (E := (eT3 eI eI eI)) (lgs_cons (lg_name 2 nd) (fun _ => (lgs_cons (lg_name 3 nd) (fun _ => (lgs_cons (lg_name 4 nd) (fun _ => lgs_nil)))))) (fun x => (x.1, x.2.1, x.2.2, ())) (fun a : Int × Int × Int × Unit => [eI.enc (a.1), eI.enc (a.2.1), eI.enc (a.2.2.1)]) (fun _ => (.cons (.cons (.cons .nil)))) (fun _ => rfl) rfl (fun _ => rfl))) (fun x63 t62 kc64 kb65 => (lb_if (env1 := (fun j79 : (List (Int × Int × Int)) => [.st none (List (Int × Int × Int)) (it (eL (eT3 eI eI eI))) a_spans, .st none (List (Int × Int × Int)) (ls (it (eT3 eI eI eI))) j79, .st none Int (it eI) x63.1, .st none Int (it eI) x63.2.1, .st none Int (it eI) x63.2.2])) (lt_w (lw_and (lt_cmp (lc_gt (lx_len lm_ow.w fa.z_len (lo_var 1 rfl) (fun _ => rfl)) (fun p66 => lx_int)) (nomark _)) (fun p67 => (lw_and (lt_cmp (lc_eqI (lx_part part3_0 (lx_ix lm_ow.w (lo_var 1 rfl) (fun p68 => (lx_neg lx_int)) (fun _ _ => rfl))) (fun p70 => (lx_var 2 cp_it rfl))) (nomark _)) (fun p71 => (lw_and1 (lt_cmp (lc_ge (lx_add (lx_part part3_2 (lx_ix lm_ow.w (lo_var 1 rfl) (fun p74 => (lx_neg lx_int)) (fun _ _ => rfl))) (fun p76 => lx_int)) (fun p77 => (lx_var 3 cp_it rfl))) (nomark _)))) (fun p71 _ => Sub.refl _))) (fun p67 _ => Sub.refl _))) (fun p78 => (lb_setix 1 (lx_tup (la_cons (lx_var 2 cp_it rfl) (fun p81 => (la_cons (lx_part part3_1 (lx_ix lm_ow.w (lo_var 1 rfl) (fun p82 => (lx_neg lx_int)) (fun _ _ => rfl))) (fun p84 => (la_cons (lx_max2 rfl fa.z_max (lx_part part3_2 (lx_ix lm_ow.w (lo_var 1 rfl) (fun p85 => (lx_neg lx_int)) (fun _ _ => rfl))) (fun p87 => (lx_var 4 cp_it rfl))) (fun p88 => la_nil)))))) (eT3 eI eI eI) (fun a : Int × Int × Int × Unit => (a.1, a.2.1, a.2.2.1)) (fun a => [eI.enc a.1, eI.enc a.2.1, eI.enc a.2.2.1]) (fun _ => (.cons (.cons (.cons .nil)))) (fun _ => rfl)) (fun _ => rfl) (fun y89 p90 => (lx_neg lx_int)) (fun _ _ _ => rfl) (fun y89 p90 j91 p92 z93 => (lb_end z93 (Sub.refl _))))) (fun p78 => (lb_app 1 rfl (lx_tup (la_cons (lx_var 2 cp_it rfl) (fun p97 => (la_cons (lx_var 3 cp_it rfl) (fun p98 => (la_cons (lx_var 4 cp_it rfl) (fun p99 => la_nil)))))) (eT3 eI eI eI) (fun a : Int × Int × Int × Unit => (a.1, a.2.1, a.2.2.1)) (fun a => [eI.enc a.1, eI.enc a.2.1, eI.enc a.2.2.1]) (fun _ => (.cons (.cons (.cons .nil)))) (fun _ => rfl)) (fun _ => rfl) (fun y96 p95 => (lb_end (t62 ++ [y96]) (Sub.refl _))))) (fun j79 => (lb_end j79 (.keep (.keep (.drop (.drop (.drop Sub.nil))))))))) (fun t103 => (lb_ret (lx_frz 1 (fz_ls fz_it) rfl) (fun _ => ()) (fun p => (.drop (.drop (.keep (.keep (.keep Sub.nil)))))))))))
    (by first | (unfold m_joint; dsimp only [id]; done) | (unfold m_joint; dsimp only [id]; rfl) | rfl)
abbrev n_united : List Str := ["one", "other"]
theorem sc_united : FnScope n_united ["one", "other"] (defScope s_united) := ⟨rfl, rfl, rfl, by decide +kernel, rfl, by decide +kernel, by decide +kernel⟩
abbrev sp_united (K : Fg) : Sp := spP K (fun a : (List (Int × Int × Int)) × (List (Int × Int × Int)) × Unit => [.st none (List (Int × Int × Int)) (it (eL (eT3 eI eI eI))) a.1, .st none (List (Int × Int × Int)) (it (eL (eT3 eI eI eI))) a.2.1]) (it (eL (eT3 eI eI eI))) (fun a => m_united a.1 a.2.1)
set_option maxHeartbeats 0 in
theorem ok_united (fa : Fa K mg) : FnOk P w K mg base CX0 2 fa.f_united fa.fd_united ["one", "other"] (sp_united K) := by
  refine fnP fa.F_united sc_united 0 rfl (fun _ => rfl) fun cdv A' outer s H E hr => ?_
  have nd := sc_united.nd
  have hu := hr.units
  have hu5 : (A'.deeper (envOfC "united" (defScope s_united) s.heap.objs.size fa.f_united cdv)).units + 65 < cLine := by have := hr.un; omega
  rintro ⟨a_one, a_other, _⟩
  exact lb_use (env := [.st none (List (Int × Int × Int)) (it (eL (eT3 eI eI eI))) a_one, .st none (List (Int × Int × Int)) (it (eL (eT3 eI eI eI))) a_other])
    (lb_ret (lx_call (ok_joint fa) (hr.mono (by decide)) fa.g_joint fa.F_joint.kp fa.b_joint (fun _ => (.cons cp_it .nil)) (la_cons (lx_sh (fz_ls fz_it) (lx_cat lm_sh lm_sh (lo_of (lx_var 0 cp_it rfl)) (fun p105 => (lo_of (lx_var 1 cp_it rfl))) (fun _ _ => trivial) (fun _ _ => trivial))) (fun p108 => la_nil))) (fun _ => ()) (fun p => (.drop (.drop Sub.nil))))
    (by first | (unfold m_united; dsimp only [id]; done) | (unfold m_united; dsimp only [id]; rfl) | rfl)
abbrev n_common : List Str := ["one", "other", "found", "y", "first", "last", "row", "left", "right"]
theorem sc_common : FnScope n_common ["one", "other"] (defScope s_common) := ⟨rfl, rfl, rfl, by decide +kernel, rfl, by decide +kernel, by decide +kernel⟩
abbrev sp_common (K : Fg) : Sp := spP K (fun a : (List (Int × Int × Int)) × (List (Int × Int × Int)) × Unit => [.st none (List (Int × Int × Int)) (it (eL (eT3 eI eI eI))) a.1, .st none (List (Int × Int × Int)) (it (eL (eT3 eI eI eI))) a.2.1]) (it (eL (eT3 eI eI eI))) (fun a => m_common a.1 a.2.1)
set_option maxHeartbeats 0 in
theorem ok_common (fa : Fa K mg) : FnOk P w K mg base CX0 2 fa.f_common fa.fd_common ["one", "other"] (sp_common K) := by
  refine fnP fa.F_common sc_common 7 rfl (fun _ => rfl) fun cdv A' outer s H E hr => ?_
  have nd := sc_common.nd
  have hu := hr.units
  have hu5 : (A'.deeper (envOfC "common" (defScope s_common) s.heap.objs.size fa.f_common cdv)).units + 65 < cLine := by have := hr.un; omega
  rintro ⟨a_one, a_other, _⟩
  exact lb_use (env := [.st none (List (Int × Int × Int)) (it (eL (eT3 eI eI eI))) a_one, .st none (List (Int × Int × Int)) (it (eL (eT3 eI eI eI))) a_other, .un, .un, .un, .un, .un, .un, .un])
    (lb_set 2 nd (lx_list la_nil (eT3 eI eI eI) (fun _ => []) (fun _ => .nil)) (fun v_found_110 p111 => (lb_for (envT := (fun t113 : (List (Int × Int × Int)) => [.st none (List (Int × Int × Int)) (it (eL (eT3 eI eI eI))) a_one, .st none (List (Int × Int × Int)) (it (eL (eT3 eI eI eI))) a_other, .st none (List (Int × Int × Int)) (ls (it (eT3 eI eI eI))) t113, .un, .un, .un, .un, .un, .un])) PassesOwn.never rfl (li_list lm_sh.w (lx_var 0 cp_it rfl)) (fun p112 => v_found_110) (fun p112 => (Sub.refl _)) (fun t113 => (lg_tup (E := (eT3 eI eI eI)) (lgs_cons (lg_name 3 nd) (fun _ => (lgs_cons (lg_name 4 nd) (fun _ => (lgs_cons (lg_name 5 nd) (fun _ => lgs_nil)))))) (fun x => (x.1, x.2.1, x.2.2, ())) (fun a : Int × Int × Int × Unit => [eI.enc (a.1), eI.enc (a.2.1), eI.enc (a.2.2.1)]) (fun _ => (.cons (.cons (.cons .nil)))) (fun _ => rfl) rfl (fun _ => rfl))) (fun x114 t113 kc115 kb116 => (lb_for (envT := (fun t118 : (List (Int × Int × Int)) => [.st none (List (Int × Int × Int)) (it (eL (eT3 eI eI eI))) a_one, .st none (List (Int × Int × Int)) (it (eL (eT3 eI eI eI))) a_other, .st none (List (Int × Int × Int)) (ls (it (eT3 eI eI eI))) t118, .st none Int (it eI) x114.1, .st none Int (it eI) x114.2.1, .st none Int (it eI) x114.2.2, .un, .un, .un])) PassesOwn.never rfl (li_list lm_sh.w (lx_var 1 cp_it rfl)) (fun p117 => t113) (fun p117 => (Sub.refl _)) (fun t118 => (lg_tup (E := (eT3 eI eI eI)) (lgs_cons (lg_name 6 nd) (fun _ => (lgs_cons (lg_name 7 nd) (fun _ => (lgs_cons (lg_name 8 nd) (fun _ => lgs_nil)))))) (fun x => (x.1, x.2.1, x.2.2, ())) (fun a : Int × Int × Int × Unit => [eI.enc (a.1), eI.enc (a.2.1), eI.enc (a.2.2.1)]) (fun _ => (.cons (.cons (.cons .nil)))) (fun _ => rfl) rfl (fun _ => rfl))) (fun x119 t118 kc120 kb121 => (lb_if (env1 := (fun j128 : (List (Int × Int × Int)) => [.st none (List (Int × Int × Int)) (it (eL (eT3 eI eI eI))) a_one, .st none (List (Int × Int × Int)) (it (eL (eT3 eI eI eI))) a_other, .st none (List (Int × Int × Int)) (ls (it (eT3 eI eI eI))) j128, .st none Int (it eI) x114.1, .st none Int (it eI) x114.2.1, .st none Int (it eI) x114.2.2, .st none Int (it eI) x119.1, .st none Int (it eI) x119.2.1, .st none Int (it eI) x119.2.2])) (lt_w (lw_and (lt_cmp (lc_eqI (lx_var 6 cp_it rfl) (fun p122 => (lx_var 3 cp_it rfl))) (nomark _)) (fun p123 => (lw_and (lt_cmp (lc_le (lx_var 7 cp_it rfl) (fun p124 => (lx_var 5 cp_it rfl))) (nomark _)) (fun p125 => (lw_and1 (lt_cmp (lc_le (lx_var 4 cp_it rfl) (fun p126 => (lx_var 8 cp_it rfl))) (nomark _)))) (fun p125 _ => Sub.refl _))) (fun p123 _ => Sub.refl _))) (fun p127 => (lb_app 2 rfl (lx_tup (la_cons (lx_var 3 cp_it rfl) (fun p132 => (la_cons (lx_max2 rfl fa.z_max (lx_var 4 cp_it rfl) (fun p133 => (lx_var 7 cp_it rfl))) (fun p134 => (la_cons (lx_min2 rfl fa.z_min (lx_var 5 cp_it rfl) (fun p135 => (lx_var 8 cp_it rfl))) (fun p136 => la_nil)))))) (eT3 eI eI eI) (fun a : Int × Int × Int × Unit => (a.1, a.2.1, a.2.2.1)) (fun a => [eI.enc a.1, eI.enc a.2.1, eI.enc a.2.2.1]) (fun _ => (.cons (.cons (.cons .nil)))) (fun _ => rfl)) (fun _ => rfl) (fun y131 p130 => (lb_end (t118 ++ [y131]) (Sub.refl _))))) (fun p127 => (lb_end t118 (Sub.refl _))) (fun j128 => (lb_end j128 (.keep (.keep (.keep (.keep (.keep (.keep (.drop (.drop (.drop Sub.nil))))))))))))) (fun t140 => (lb_end t140 (.keep (.keep (.keep (.drop (.drop (.drop (.keep (.keep (.keep Sub.nil))))))))))))) (fun t142 => (lb_ret (lx_call (ok_joint fa) (hr.mono (by decide)) fa.g_joint fa.F_joint.kp fa.b_joint (fun _ => (.cons cp_it .nil)) (la_cons (lx_frz 2 (fz_ls fz_it) rfl) (fun p143 => la_nil))) (fun _ => ()) (fun p => (.drop (.drop (.drop (.keep (.keep (.keep (.keep (.keep (.keep Sub.nil)))))))))))))))
    (by first | (unfold m_common; dsimp only [id]; done) | (unfold m_common; dsimp only [id]; rfl) | rfl)
abbrev n_less : List Str := ["one", "other", "found", "y", "first", "last", "start", "row", "left", "right"]
theorem sc_less : FnScope n_less ["one", "other"] (defScope s_less) := ⟨rfl, rfl, rfl, by decide +kernel, rfl, by decide +kernel, by decide +kernel⟩
abbrev sp_less (K : Fg) : Sp := spP K (fun a : (List (Int × Int × Int)) × (List (Int × Int × Int)) × Unit => [.st none (List (Int × Int × Int)) (it (eL (eT3 eI eI eI))) a.1, .st none (List (Int × Int × Int)) (it (eL (eT3 eI eI eI))) a.2.1]) (it (eL (eT3 eI eI eI))) (fun a => m_less a.1 a.2.1)
set_option maxHeartbeats 0 in
theorem ok_less (fa : Fa K mg) : FnOk P w K mg base CX0 2 fa.f_less fa.fd_less ["one", "other"] (sp_less K) := by
  refine fnP fa.F_less sc_less 8 rfl (fun _ => rfl) fun cdv A' outer s H E hr => ?_
  have nd := sc_less.nd
  have hu := hr.units
  have hu5 : (A'.deeper (envOfC "less" (defScope s_less) s.heap.objs.size fa.f_less cdv)).units + 65 < cLine := by have := hr.un; omega
  rintro ⟨a_one, a_other, _⟩
  exact lb_use (env := [.st none (List (Int × Int × Int)) (it (eL (eT3 eI eI eI))) a_one, .st none (List (Int × Int × Int)) (it (eL (eT3 eI eI eI))) a_other, .un, .un, .un, .un, .un, .un, .un, .un])
    (lb_set 2 nd (lx_list la_nil (eT3 eI eI eI) (fun _ => []) (fun _ => .nil)) (fun v_found_146 p147 => (lb_for (envT := (fun t149 : (List (Int × Int × Int)) => [.st none (List (Int × Int × Int)) (it (eL (eT3 eI eI eI))) a_one, .st none (List (Int × Int × Int)) (it (eL (eT3 eI eI eI))) a_other, .st none (List (Int × Int × Int)) (ls (it (eT3 eI eI eI))) t149, .un, .un, .un, .un, .un, .un, .un])) PassesOwn.never rfl (li_list lm_sh.w (lx_var 0 cp_it rfl)) (fun p148 => v_found_146) (fun p148 => (Sub.refl _)) (fun t149 => (lg_tup (E := (eT3 eI eI eI)) (lgs_cons (lg_name 3 nd) (fun _ => (lgs_cons (lg_name 4 nd) (fun _ => (lgs_cons (lg_name 5 nd) (fun _ => lgs_nil)))))) (fun x => (x.1, x.2.1, x.2.2, ())) (fun a : Int × Int × Int × Unit => [eI.enc (a.1), eI.enc (a.2.1), eI.enc (a.2.2.1)]) (fun _ => (.cons (.cons (.cons .nil)))) (fun _ => rfl) rfl (fun _ => rfl))) (fun x150 t149 kc151 kb152 => (lb_set 6 nd (lx_var 4 cp_it rfl) (fun v_start_153 p154 => (lb_for (envT := (fun t156 : ((List (Int × Int × Int)) × Int) => [.st none (List (Int × Int × Int)) (it (eL (eT3 eI eI eI))) a_one, .st none (List (Int × Int × Int)) (it (eL (eT3 eI eI eI))) a_other, .st none (List (Int × Int × Int)) (ls (it (eT3 eI eI eI))) t156.1, .st none Int (it eI) x150.1, .st none Int (it eI) x150.2.1, .st none Int (it eI) x150.2.2, .st none Int (it eI) t156.2, .un, .un, .un])) PassesOwn.never rfl (li_list lm_sh.w (lx_var 1 cp_it rfl)) (fun p155 => (t149, v_start_153)) (fun p155 => (Sub.refl _)) (fun t156 => (lg_tup (E := (eT3 eI eI eI)) (lgs_cons (lg_name 7 nd) (fun _ => (lgs_cons (lg_name 8 nd) (fun _ => (lgs_cons (lg_name 9 nd) (fun _ => lgs_nil)))))) (fun x => (x.1, x.2.1, x.2.2, ())) (fun a : Int × Int × Int × Unit => [eI.enc (a.1), eI.enc (a.2.1), eI.enc (a.2.2.1)]) (fun _ => (.cons (.cons (.cons .nil)))) (fun _ => rfl) rfl (fun _ => rfl))) (fun x157 t156 kc158 kb159 => (lb_if (env1 := (fun j166 : ((List (Int × Int × Int)) × Int) => [.st none (List (Int × Int × Int)) (it (eL (eT3 eI eI eI))) a_one, .st none (List (Int × Int × Int)) (it (eL (eT3 eI eI eI))) a_other, .st none (List (Int × Int × Int)) (ls (it (eT3 eI eI eI))) j166.1, .st none Int (it eI) x150.1, .st none Int (it eI) x150.2.1, .st none Int (it eI) x150.2.2, .st none Int (it eI) j166.2, .st none Int (it eI) x157.1, .st none Int (it eI) x157.2.1, .st none Int (it eI) x157.2.2])) (lt_w (lw_and (lt_cmp (lc_eqI (lx_var 7 cp_it rfl) (fun p160 => (lx_var 3 cp_it rfl))) (nomark _)) (fun p161 => (lw_and (lt_cmp (lc_le (lx_var 8 cp_it rfl) (fun p162 => (lx_var 5 cp_it rfl))) (nomark _)) (fun p163 => (lw_and1 (lt_cmp (lc_le (lx_var 6 cp_it rfl) (fun p164 => (lx_var 9 cp_it rfl))) (nomark _)))) (fun p163 _ => Sub.refl _))) (fun p161 _ => Sub.refl _))) (fun p165 => (lb_if (env1 := (fun j170 : (List (Int × Int × Int)) => [.st none (List (Int × Int × Int)) (it (eL (eT3 eI eI eI))) a_one, .st none (List (Int × Int × Int)) (it (eL (eT3 eI eI eI))) a_other, .st none (List (Int × Int × Int)) (ls (it (eT3 eI eI eI))) j170, .st none Int (it eI) x150.1, .st none Int (it eI) x150.2.1, .st none Int (it eI) x150.2.2, .st none Int (it eI) t156.2, .st none Int (it eI) x157.1, .st none Int (it eI) x157.2.1, .st none Int (it eI) x157.2.2])) (lt_cmp (lc_lt (lx_var 6 cp_it rfl) (fun p168 => (lx_var 8 cp_it rfl))) (nomark _)) (fun p169 => (lb_app 2 rfl (lx_tup (la_cons (lx_var 3 cp_it rfl) (fun p174 => (la_cons (lx_var 6 cp_it rfl) (fun p175 => (la_cons (lx_sub (lx_var 8 cp_it rfl) (fun p176 => lx_int)) (fun p177 => la_nil)))))) (eT3 eI eI eI) (fun a : Int × Int × Int × Unit => (a.1, a.2.1, a.2.2.1)) (fun a => [eI.enc a.1, eI.enc a.2.1, eI.enc a.2.2.1]) (fun _ => (.cons (.cons (.cons .nil)))) (fun _ => rfl)) (fun _ => rfl) (fun y173 p172 => (lb_end (t156.1 ++ [y173]) (Sub.refl _))))) (fun p169 => (lb_end t156.1 (Sub.refl _))) (fun j170 => (lb_set 6 nd (lx_max2 rfl fa.z_max (lx_var 6 cp_it rfl) (fun p179 => (lx_add (lx_var 9 cp_it rfl) (fun p180 => lx_int)))) (fun v_start_181 p182 => (lb_end (j170, v_start_181) (Sub.refl _))))))) (fun p165 => (lb_end (t156.1, t156.2) (Sub.refl _))) (fun j166 => (lb_end (j166.1, j166.2) (.keep (.keep (.keep (.keep (.keep (.keep (.keep (.drop (.drop (.drop Sub.nil)))))))))))))) (fun t185 => (lb_if (env1 := (fun j188 : (List (Int × Int × Int)) => [.st none (List (Int × Int × Int)) (it (eL (eT3 eI eI eI))) a_one, .st none (List (Int × Int × Int)) (it (eL (eT3 eI eI eI))) a_other, .st none (List (Int × Int × Int)) (ls (it (eT3 eI eI eI))) j188, .st none Int (it eI) x150.1, .st none Int (it eI) x150.2.1, .st none Int (it eI) x150.2.2, .st none Int (it eI) t185.2, .un, .un, .un])) (lt_cmp (lc_le (lx_var 6 cp_it rfl) (fun p186 => (lx_var 5 cp_it rfl))) (nomark _)) (fun p187 => (lb_app 2 rfl (lx_tup (la_cons (lx_var 3 cp_it rfl) (fun p192 => (la_cons (lx_var 6 cp_it rfl) (fun p193 => (la_cons (lx_var 5 cp_it rfl) (fun p194 => la_nil)))))) (eT3 eI eI eI) (fun a : Int × Int × Int × Unit => (a.1, a.2.1, a.2.2.1)) (fun a => [eI.enc a.1, eI.enc a.2.1, eI.enc a.2.2.1]) (fun _ => (.cons (.cons (.cons .nil)))) (fun _ => rfl)) (fun _ => rfl) (fun y191 p190 => (lb_end (t185.1 ++ [y191]) (Sub.refl _))))) (fun p187 => (lb_end t185.1 (Sub.refl _))) (fun j188 => (lb_end j188 (.keep (.keep (.keep (.drop (.drop (.drop (.drop (.keep (.keep (.keep Sub.nil)))))))))))))))))) (fun t197 => (lb_ret (lx_call (ok_joint fa) (hr.mono (by decide)) fa.g_joint fa.F_joint.kp fa.b_joint (fun _ => (.cons cp_it .nil)) (la_cons (lx_frz 2 (fz_ls fz_it) rfl) (fun p198 => la_nil))) (fun _ => ()) (fun p => (.drop (.drop (.drop (.keep (.keep (.keep (.keep (.keep (.keep (.keep Sub.nil))))))))))))))))
    (by first | (unfold m_less; dsimp only [id]; done) | (unfold m_less; dsimp only [id]; rfl) | rfl)
abbrev n_swept : List Str := ["region", "side", "found", "rise", "y", "first", "last"]
theorem sc_swept : FnScope n_swept ["region", "side"] (defScope s_swept) := ⟨rfl, rfl, rfl, by decide +kernel, rfl, by decide +kernel, by decide +kernel⟩
abbrev sp_swept (K : Fg) : Sp := spP K (fun a : (List (Int × Int × Int)) × Int × Unit => [.st none (List (Int × Int × Int)) (it (eL (eT3 eI eI eI))) a.1, .st none Int (it eI) a.2.1]) (it (eL (eT3 eI eI eI))) (fun a => m_swept a.1 a.2.1)
set_option maxHeartbeats 0 in
theorem ok_swept (fa : Fa K mg) : FnOk P w K mg base CX0 2 fa.f_swept fa.fd_swept ["region", "side"] (sp_swept K) := by
  refine fnP fa.F_swept sc_swept 5 rfl (fun _ => rfl) fun cdv A' outer s H E hr => ?_
  have nd := sc_swept.nd
  have hu := hr.units
  have hu5 : (A'.deeper (envOfC "swept" (defScope s_swept) s.heap.objs.size fa.f_swept cdv)).units + 65 < cLine := by have := hr.un; omega
  rintro ⟨a_region, a_side, _⟩
  exact lb_use (env := [.st none (List (Int × Int × Int)) (it (eL (eT3 eI eI eI))) a_region, .st none Int (it eI) a_side, .un, .un, .un, .un, .un])
    (lb_set 2 nd (lx_list la_nil (eT3 eI eI eI) (fun _ => []) (fun _ => .nil)) (fun v_found_201 p202 => (lb_for (envT := (fun t204 : (List (Int × Int × Int)) => [.st none (List (Int × Int × Int)) (it (eL (eT3 eI eI eI))) a_region, .st none Int (it eI) a_side, .st none (List (Int × Int × Int)) (ls (it (eT3 eI eI eI))) t204, .un, .un, .un, .un])) PassesOwn.never rfl (li_range1 (by rfl) fa.z_range (lx_var 1 cp_it rfl)) (fun p203 => v_found_201) (fun p203 => (Sub.refl _)) (fun t204 => (lg_name 3 nd)) (fun x205 t204 kc206 kb207 => (lb_set 2 nd (lx_cat lm_ow lm_ow (lo_var 2 rfl) (fun p208 => (lo_of (lx_lc (envT := (fun t210 : Unit => [.st none (List (Int × Int × Int)) (it (eL (eT3 eI eI eI))) a_region, .st none Int (it eI) a_side, .st none (List (Int × Int × Int)) (ls (it (eT3 eI eI eI))) t204, .st none Int (it eI) x205, .un, .un, .un])) rfl nd (blkOk_by (N := n_swept) (sc := defScope s_swept) (own := [("y", 4), ("first", 5), ("last", 6)]) (by decide +kernel)) (li_list lm_sh.w (lx_var 0 cp_it rfl)) (fun p209 => ()) (fun p209 => (Sub.refl _)) (by intro t i s hm he; simp at hm; rcases hm with rfl | rfl | rfl <;> (have e := Option.some.inj he; exact e.symm)) (fun _ _ _ _ _ t210 => (lg_tup (E := (eT3 eI eI eI)) (lgs_cons (lg_name 4 nd) (fun _ => (lgs_cons (lg_name 5 nd) (fun _ => (lgs_cons (lg_name 6 nd) (fun _ => lgs_nil)))))) (fun x => (x.1, x.2.1, x.2.2, ())) (fun a : Int × Int × Int × Unit => [eI.enc (a.1), eI.enc (a.2.1), eI.enc (a.2.2.1)]) (fun _ => (.cons (.cons (.cons .nil)))) (fun _ => rfl) rfl (fun _ => rfl))) (fun _ _ _ _ _ t210 x211 => ltl_nil) (fun _ _ _ _ _ t210 x211 p212 => (lx_tup (la_cons (lx_add (lx_var 4 cp_it rfl) (fun p213 => (lx_var 3 cp_it rfl))) (fun p214 => (la_cons (lx_var 5 cp_it rfl) (fun p215 => (la_cons (lx_sub (lx_add (lx_var 6 cp_it rfl) (fun p216 => (lx_var 1 cp_it rfl))) (fun p217 => lx_int)) (fun p218 => la_nil)))))) (eT3 eI eI eI) (fun a : Int × Int × Int × Unit => (a.1, a.2.1, a.2.2.1)) (fun a => [eI.enc a.1, eI.enc a.2.1, eI.enc a.2.2.1]) (fun _ => (.cons (.cons (.cons .nil)))) (fun _ => rfl))) (fun t210 x211 p212 p219 => ()) (fun t210 x211 p212 p219 => by exact (.keep (.keep (.keep (.keep (.drop (.drop (.drop Sub.nil)))))))) (fun t210 x211 p212 => ()) (fun t210 x211 p212 => by exact (.keep (.keep (.keep (.keep (.drop (.drop (.drop Sub.nil))))))))))) (fun _ _ => rfl) (fun _ _ => trivial)) (fun v_found_225 p226 => (lb_end v_found_225 (.keep (.keep (.keep (.drop (.keep (.keep (.keep Sub.nil))))))))))) (fun t227 => (lb_ret (lx_call (ok_joint fa) (hr.mono (by decide)) fa.g_joint fa.F_joint.kp fa.b_joint (fun _ => (.cons cp_it .nil)) (la_cons (lx_frz 2 (fz_ls fz_it) rfl) (fun p228 => la_nil))) (fun _ => ()) (fun p => (.drop (.drop (.drop (.keep (.keep (.keep (.keep Sub.nil)))))))))))))
    (by first | (unfold m_swept; dsimp only [id]; done) | (unfold m_swept; dsimp only [id]; rfl) | rfl)
abbrev n_shrunk : List Str := ["region", "side", "found", "y", "first", "last", "rise", "rows"]
theorem sc_shrunk : FnScope n_shrunk ["region", "side"] (defScope s_shrunk) := ⟨rfl, rfl, rfl, by decide +kernel, rfl, by decide +kernel, by decide +kernel⟩
abbrev sp_shrunk (K : Fg) : Sp := spP K (fun a : (List (Int × Int × Int)) × Int × Unit => [.st none (List (Int × Int × Int)) (it (eL (eT3 eI eI eI))) a.1, .st none Int (it eI) a.2.1]) (it (eL (eT3 eI eI eI))) (fun a => m_shrunk a.1 a.2.1)
set_option maxHeartbeats 0 in
theorem ok_shrunk (fa : Fa K mg) : FnOk P w K mg base CX0 3 fa.f_shrunk fa.fd_shrunk ["region", "side"] (sp_shrunk K) := by
  refine fnP fa.F_shrunk sc_shrunk 6 rfl (fun _ => rfl) fun cdv A' outer s H E hr => ?_
  have nd := sc_shrunk.nd
  have hu := hr.units
  have hu5 : (A'.deeper (envOfC "shrunk" (defScope s_shrunk) s.heap.objs.size fa.f_shrunk cdv)).units + 65 < cLine := by have := hr.un; omega
  rintro ⟨a_region, a_side, _⟩
  exact lb_use (env := [.st none (List (Int × Int × Int)) (it (eL (eT3 eI eI eI))) a_region, .st none Int (it eI) a_side, .un, .un, .un, .un, .un, .un])
    (lb_setLc (envT := (fun t232 : Unit => [.st none (List (Int × Int × Int)) (it (eL (eT3 eI eI eI))) a_region, .st none Int (it eI) a_side, .un, .un, .un, .un, .un, .un])) rfl nd (blkOk_by (N := n_shrunk) (sc := defScope s_shrunk) (own := [("y", 3), ("first", 4), ("last", 5)]) (by decide +kernel)) 2 (li_list lm_sh.w (lx_var 0 cp_it rfl)) (fun p231 => ()) (fun p231 => (Sub.refl _)) (by intro t i s hm he; simp at hm; rcases hm with rfl | rfl | rfl <;> (have e := Option.some.inj he; exact e.symm)) (fun _ _ _ _ _ t232 => (lg_tup (E := (eT3 eI eI eI)) (lgs_cons (lg_name 3 nd) (fun _ => (lgs_cons (lg_name 4 nd) (fun _ => (lgs_cons (lg_name 5 nd) (fun _ => lgs_nil)))))) (fun x => (x.1, x.2.1, x.2.2, ())) (fun a : Int × Int × Int × Unit => [eI.enc (a.1), eI.enc (a.2.1), eI.enc (a.2.2.1)]) (fun _ => (.cons (.cons (.cons .nil)))) (fun _ => rfl) rfl (fun _ => rfl))) (fun _ _ _ _ _ t232 x233 => (ltl_one (lt_cmp (lc_ge (lx_add (lx_sub (lx_var 5 cp_it rfl) (fun p235 => (lx_var 4 cp_it rfl))) (fun p236 => lx_int)) (fun p237 => (lx_var 1 cp_it rfl))) (nomark _)))) (fun _ _ _ _ _ t232 x233 p238 => (lx_tup (la_cons (lx_var 3 cp_it rfl) (fun p239 => (la_cons (lx_var 4 cp_it rfl) (fun p240 => (la_cons (lx_add (lx_sub (lx_var 5 cp_it rfl) (fun p242 => (lx_var 1 cp_it rfl))) (fun p243 => lx_int)) (fun p244 => la_nil)))))) (eT3 eI eI eI) (fun a : Int × Int × Int × Unit => (a.1, a.2.1, a.2.2.1)) (fun a => [eI.enc a.1, eI.enc a.2.1, eI.enc a.2.2.1]) (fun _ => (.cons (.cons (.cons .nil)))) (fun _ => rfl))) (fun t232 x233 p238 p245 => ()) (fun t232 x233 p238 p245 => by exact (.keep (.keep (.keep (.drop (.drop (.drop (.keep (.keep Sub.nil))))))))) (fun t232 x233 p238 => ()) (fun t232 x233 p238 => by exact (.keep (.keep (.keep (.drop (.drop (.drop (.keep (.keep Sub.nil))))))))) (fun v_found_249 p250 => (lb_frz 2 (fz_ls fz_it) rfl (lb_for (envT := (fun t253 : (List (Int × Int × Int)) => [.st none (List (Int × Int × Int)) (it (eL (eT3 eI eI eI))) a_region, .st none Int (it eI) a_side, .st none (List (Int × Int × Int)) (it (eL (eT3 eI eI eI))) t253, .un, .un, .un, .un, .un])) PassesOwn.never rfl (li_range2 (by rfl) fa.z_range lx_int (fun p251 => (lx_var 1 cp_it rfl))) (fun p252 => v_found_249) (fun p252 => (Sub.refl _)) (fun t253 => (lg_name 6 nd)) (fun x254 t253 kc255 kb256 => (lb_setLc (envT := (fun t258 : Unit => [.st none (List (Int × Int × Int)) (it (eL (eT3 eI eI eI))) a_region, .st none Int (it eI) a_side, .st none (List (Int × Int × Int)) (it (eL (eT3 eI eI eI))) t253, .un, .un, .un, .st none Int (it eI) x254, .un])) rfl nd (blkOk_by (N := n_shrunk) (sc := defScope s_shrunk) (own := [("y", 3), ("first", 4), ("last", 5)]) (by decide +kernel)) 7 (li_list lm_sh.w (lx_var 0 cp_it rfl)) (fun p257 => ()) (fun p257 => (Sub.refl _)) (by intro t i s hm he; simp at hm; rcases hm with rfl | rfl | rfl <;> (have e := Option.some.inj he; exact e.symm)) (fun _ _ _ _ _ t258 => (lg_tup (E := (eT3 eI eI eI)) (lgs_cons (lg_name 3 nd) (fun _ => (lgs_cons (lg_name 4 nd) (fun _ => (lgs_cons (lg_name 5 nd) (fun _ => lgs_nil)))))) (fun x => (x.1, x.2.1, x.2.2, ())) (fun a : Int × Int × Int × Unit => [eI.enc (a.1), eI.enc (a.2.1), eI.enc (a.2.2.1)]) (fun _ => (.cons (.cons (.cons .nil)))) (fun _ => rfl) rfl (fun _ => rfl))) (fun _ _ _ _ _ t258 x259 => (ltl_one (lt_cmp (lc_ge (lx_add (lx_sub (lx_var 5 cp_it rfl) (fun p261 => (lx_var 4 cp_it rfl))) (fun p262 => lx_int)) (fun p263 => (lx_var 1 cp_it rfl))) (nomark _)))) (fun _ _ _ _ _ t258 x259 p264 => (lx_tup (la_cons (lx_sub (lx_var 3 cp_it rfl) (fun p265 => (lx_var 6 cp_it rfl))) (fun p266 => (la_cons (lx_var 4 cp_it rfl) (fun p267 => (la_cons (lx_add (lx_sub (lx_var 5 cp_it rfl) (fun p269 => (lx_var 1 cp_it rfl))) (fun p270 => lx_int)) (fun p271 => la_nil)))))) (eT3 eI eI eI) (fun a : Int × Int × Int × Unit => (a.1, a.2.1, a.2.2.1)) (fun a => [eI.enc a.1, eI.enc a.2.1, eI.enc a.2.2.1]) (fun _ => (.cons (.cons (.cons .nil)))) (fun _ => rfl))) (fun t258 x259 p264 p272 => ()) (fun t258 x259 p264 p272 => by exact (.keep (.keep (.keep (.drop (.drop (.drop (.keep (.keep Sub.nil))))))))) (fun t258 x259 p264 => ()) (fun t258 x259 p264 => by exact (.keep (.keep (.keep (.drop (.drop (.drop (.keep (.keep Sub.nil))))))))) (fun v_rows_276 p277 => (lb_set 2 nd (lx_call (ok_common fa) (hr.mono (by decide)) fa.g_common fa.F_common.kp fa.b_common (fun _ => (.cons cp_it (.cons cp_it .nil))) (la_cons (lx_var 2 cp_it rfl) (fun p278 => (la_cons (lx_frz 7 (fz_ls fz_it) rfl) (fun p279 => la_nil))))) (fun v_found_281 p282 => (lb_end v_found_281 (.keep (.keep (.keep (.keep (.keep (.keep (.drop (.drop Sub.nil)))))))))))) (sw_true rfl rfl rfl (by decide +kernel)))) (fun t283 => (lb_ret (lx_call (ok_joint fa) (hr.mono (by decide)) fa.g_joint fa.F_joint.kp fa.b_joint (fun _ => (.cons cp_it .nil)) (la_cons (lx_var 2 cp_it rfl) (fun p284 => la_nil))) (fun _ => ()) (fun p => (.drop (.drop (.drop (.keep (.keep (.keep (.keep (.keep Sub.nil)))))))))))))) (sw_true rfl rfl rfl (by decide +kernel)))
    (by first | (unfold m_shrunk; dsimp only [id]; done) | (unfold m_shrunk; dsimp only [id]; rfl) | rfl)
abbrev n_opened : List Str := ["region", "side"]
theorem sc_opened : FnScope n_opened ["region", "side"] (defScope s_opened) := ⟨rfl, rfl, rfl, by decide +kernel, rfl, by decide +kernel, by decide +kernel⟩
abbrev sp_opened (K : Fg) : Sp := spP K (fun a : (List (Int × Int × Int)) × Int × Unit => [.st none (List (Int × Int × Int)) (it (eL (eT3 eI eI eI))) a.1, .st none Int (it eI) a.2.1]) (it (eL (eT3 eI eI eI))) (fun a => m_opened a.1 a.2.1)
set_option maxHeartbeats 0 in
theorem ok_opened (fa : Fa K mg) : FnOk P w K mg base CX0 4 fa.f_opened fa.fd_opened ["region", "side"] (sp_opened K) := by
  refine fnP fa.F_opened sc_opened 0 rfl (fun _ => rfl) fun cdv A' outer s H E hr => ?_
  have nd := sc_opened.nd
  have hu := hr.units
  have hu5 : (A'.deeper (envOfC "opened" (defScope s_opened) s.heap.objs.size fa.f_opened cdv)).units + 65 < cLine := by have := hr.un; omega
  rintro ⟨a_region, a_side, _⟩
  exact lb_use (env := [.st none (List (Int × Int × Int)) (it (eL (eT3 eI eI eI))) a_region, .st none Int (it eI) a_side])
    (lb_ret (lx_call (ok_swept fa) (hr.mono (by decide)) fa.g_swept fa.F_swept.kp fa.b_swept (fun _ => (.cons cp_it (.cons cp_it .nil))) (la_cons (lx_call (ok_shrunk fa) (hr.mono (by decide)) fa.g_shrunk fa.F_shrunk.kp fa.b_shrunk (fun _ => (.cons cp_it (.cons cp_it .nil))) (la_cons (lx_var 0 cp_it rfl) (fun p287 => (la_cons (lx_var 1 cp_it rfl) (fun p288 => la_nil))))) (fun p290 => (la_cons (lx_var 1 cp_it rfl) (fun p291 => la_nil))))) (fun _ => ()) (fun p => (.drop (.drop Sub.nil))))
    (by first | (unfold m_opened; dsimp only [id]; done) | (unfold m_opened; dsimp only [id]; rfl) | rfl)
abbrev n_rest : List Str := ["region", "sides", "reached", "side"]
theorem sc_rest : FnScope n_rest ["region", "sides"] (defScope s_rest) := ⟨rfl, rfl, rfl, by decide +kernel, rfl, by decide +kernel, by decide +kernel⟩
abbrev sp_rest (K : Fg) : Sp := spP K (fun a : (List (Int × Int × Int)) × (List Int) × Unit => [.st none (List (Int × Int × Int)) (it (eL (eT3 eI eI eI))) a.1, .st none (List Int) (it (eL eI)) a.2.1]) (it (eL (eT3 eI eI eI))) (fun a => m_rest a.1 a.2.1)
set_option maxHeartbeats 0 in
theorem ok_rest (fa : Fa K mg) : FnOk P w K mg base CX0 5 fa.f_rest fa.fd_rest ["region", "sides"] (sp_rest K) := by
  refine fnP fa.F_rest sc_rest 2 rfl (fun _ => rfl) fun cdv A' outer s H E hr => ?_
  have nd := sc_rest.nd
  have hu := hr.units
  have hu5 : (A'.deeper (envOfC "rest" (defScope s_rest) s.heap.objs.size fa.f_rest cdv)).units + 65 < cLine := by have := hr.un; omega
  rintro ⟨a_region, a_sides, _⟩
  exact lb_use (env := [.st none (List (Int × Int × Int)) (it (eL (eT3 eI eI eI))) a_region, .st none (List Int) (it (eL eI)) a_sides, .un, .un])
    (lb_set 2 nd (lx_list la_nil (eT3 eI eI eI) (fun _ => []) (fun _ => .nil)) (fun v_reached_293 p294 => (lb_frz 2 (fz_ls fz_it) rfl (lb_for (envT := (fun t296 : (List (Int × Int × Int)) => [.st none (List (Int × Int × Int)) (it (eL (eT3 eI eI eI))) a_region, .st none (List Int) (it (eL eI)) a_sides, .st none (List (Int × Int × Int)) (it (eL (eT3 eI eI eI))) t296, .un])) PassesOwn.never rfl (li_list lm_sh.w (lx_var 1 cp_it rfl)) (fun p295 => v_reached_293) (fun p295 => (Sub.refl _)) (fun t296 => (lg_name 3 nd)) (fun x297 t296 kc298 kb299 => (lb_set 2 nd (lx_call (ok_united fa) (hr.mono (by decide)) fa.g_united fa.F_united.kp fa.b_united (fun _ => (.cons cp_it (.cons cp_it .nil))) (la_cons (lx_var 2 cp_it rfl) (fun p300 => (la_cons (lx_call (ok_opened fa) (hr.mono (by decide)) fa.g_opened fa.F_opened.kp fa.b_opened (fun _ => (.cons cp_it (.cons cp_it .nil))) (la_cons (lx_var 0 cp_it rfl) (fun p301 => (la_cons (lx_var 3 cp_it rfl) (fun p302 => la_nil))))) (fun p304 => la_nil))))) (fun v_reached_306 p307 => (lb_end v_reached_306 (.keep (.keep (.keep (.drop Sub.nil)))))))) (fun t308 => (lb_ret (lx_call (ok_less fa) (hr.mono (by decide)) fa.g_less fa.F_less.kp fa.b_less (fun _ => (.cons cp_it (.cons cp_it .nil))) (la_cons (lx_var 0 cp_it rfl) (fun p309 => (la_cons (lx_var 2 cp_it rfl) (fun p310 => la_nil))))) (fun _ => ()) (fun p => (.drop (.drop (.drop (.keep Sub.nil)))))))))))
    (by first | (unfold m_rest; dsimp only [id]; done) | (unfold m_rest; dsimp only [id]; rfl) | rfl)
abbrev n__law_draw : List Str := ["state", "script", "size", "cell", "mixed", "digit"]
theorem sc__law_draw : FnScope n__law_draw ["state", "script", "size"] (defScope s__law_draw) := ⟨rfl, rfl, rfl, by decide +kernel, rfl, by decide +kernel, by decide +kernel⟩
abbrev sp__law_draw (K : Fg) : Sp := spI K (ls (it eI)) (fun a : List Int × Int × Unit => [.st none (List Int) scr a.1, .st none Int (it eI) a.2.1]) (it eI) (fun t0 a => m__law_draw t0 a.1 a.2.1)
set_option maxHeartbeats 0 in
theorem ok__law_draw (fa : Fa K mg) : FnOk P w K mg base CX0 1 fa.f__law_draw fa.fd__law_draw ["state", "script", "size"] (sp__law_draw K) := by
  refine fnI fa.F__law_draw sc__law_draw 3 rfl (fun _ => rfl) fun cdv A' outer s H E hr => ?_
  have nd := sc__law_draw.nd
  have hu := hr.units
  have hu5 : (A'.deeper (envOfC "_law_draw" (defScope s__law_draw) s.heap.objs.size fa.f__law_draw cdv)).units + 65 < cLine := by have := hr.un; omega
  rintro v0 t0 ⟨a_script, a_size, _⟩
  exact lb_use (env := [.st (some v0) (List Int) (ls (it eI)) t0, .st none (List Int) scr a_script, .st none Int (it eI) a_size, .un, .un, .un])
    (lb_if (env1 := (fun j317 : (List Int) => [.st (some v0) (List Int) (ls (it eI)) j317, .st none (List Int) scr a_script, .st none Int (it eI) a_size, .un, .un, .un])) (lt_cmp (lc_eqI (lx_ix lm_ow.w (lo_var 0 rfl) (fun p313 => lx_int) (fun _ _ => rfl)) (fun p315 => lx_int)) (nomark _)) (fun p316 => (lb_set 3 nd lx_int (fun v_cell_319 p320 => (lb_if (env1 := (fun j323 : Int => [.st (some v0) (List Int) (ls (it eI)) t0, .st none (List Int) scr a_script, .st none Int (it eI) a_size, .st none Int (it eI) j323, .un, .un])) (lt_cmp (lc_gt (lx_len lv_scr fa.z_len (lo_of (lx_var 1 cp_scr rfl)) (fun _ => trivial)) (fun p321 => lx_int)) (nomark _)) (fun p322 => (lb_set 3 nd (lx_ix lv_scr (lo_of (lx_var 1 cp_scr rfl)) (fun p325 => (lx_mod (lx_ix lm_ow.w (lo_var 0 rfl) (fun p326 => lx_int) (fun _ _ => rfl)) (fun p328 => (lx_len lv_scr fa.z_len (lo_of (lx_var 1 cp_scr rfl)) (fun _ => trivial))))) (fun _ _ => trivial)) (fun v_cell_330 p331 => (lb_end v_cell_330 (Sub.refl _))))) (fun p322 => (lb_end v_cell_319 (Sub.refl _))) (fun j323 => (lb_if (env1 := (fun j334 : Int => [.st (some v0) (List Int) (ls (it eI)) t0, .st none (List Int) scr a_script, .st none Int (it eI) a_size, .st none Int (it eI) j334, .un, .un])) (lt_cmp (lc_lt (lx_var 3 cp_it rfl) (fun p332 => lx_int)) (nomark _)) (fun p333 => (lb_set 3 nd (lx_sub lx_int (fun p336 => (lx_mul lx_int (fun p337 => (lx_var 3 cp_it rfl))))) (fun v_cell_338 p339 => (lb_end v_cell_338 (Sub.refl _))))) (fun p333 => (lb_end j323 (Sub.refl _))) (fun j334 => (lb_set 4 nd (lx_mod (lx_int1 fa.z_int (lx_mul (lx_add (lx_add (lx_var 3 cp_it rfl) (fun p344 => (lx_mul (lx_ix lm_ow.w (lo_var 0 rfl) (fun p345 => lx_int) (fun _ _ => rfl)) (fun p347 => lx_int)))) (fun p348 => lx_int)) (fun p349 => lx_int))) (fun p350 => lx_int)) (fun v_mixed_351 p352 => (lb_setix 0 (lx_mod (lx_int1 fa.z_int (lx_add (lx_mul (lx_var 4 cp_it rfl) (fun p354 => lx_int)) (fun p355 => (lx_mul (lx_ix lm_ow.w (lo_var 0 rfl) (fun p356 => lx_int) (fun _ _ => rfl)) (fun p358 => lx_int))))) (fun p359 => lx_int)) (fun _ => rfl) (fun y360 p361 => lx_int) (fun _ _ _ => rfl) (fun y360 p361 j362 p363 z364 => (lb_if (env1 := (fun j372 : (List Int) => [.st (some v0) (List Int) (ls (it eI)) j372, .st none (List Int) scr a_script, .st none Int (it eI) a_size, .st none Int (it eI) j334, .st none Int (it eI) v_mixed_351, .un])) (lt_w (lw_and (lt_cmp (lc_ge (lx_var 3 cp_it rfl) (fun p365 => (lx_pow lx_int (fun p366 => lx_int)))) (nomark _)) (fun p367 => (lw_and1 (lt_cmp (lc_lt (lx_ix lm_ow.w (lo_var 0 rfl) (fun p368 => lx_int) (fun _ _ => rfl)) (fun p370 => (lx_len lv_scr fa.z_len (lo_of (lx_var 1 cp_scr rfl)) (fun _ => trivial)))) (nomark _)))) (fun p367 _ => Sub.refl _))) (fun p371 => (lb_setix 0 (lx_var 3 cp_it rfl) (fun _ => rfl) (fun y374 p375 => lx_int) (fun _ _ _ => rfl) (fun y374 p375 j376 p377 z378 => (lb_end z378 (Sub.refl _))))) (fun p371 => (lb_end z364 (Sub.refl _))) (fun j372 => (lb_setix 0 (lx_add (lx_ix lm_ow.w (lo_var 0 rfl) (fun p382 => lx_int) (fun _ _ => rfl)) (fun p384 => lx_int)) (fun _ => rfl) (fun y385 p386 => lx_int) (fun _ _ _ => rfl) (fun y385 p386 j387 p388 z389 => (lb_end z389 (.keep (.keep (.keep (.drop (.drop (.keep Sub.nil)))))))))))))))))))))) (fun p316 => (lb_end t0 (Sub.refl _))) (fun j317 => (lb_set 5 nd (lx_mod (lx_int1 fa.z_int (lx_ix lm_ow.w (lo_var 0 rfl) (fun p393 => lx_int) (fun _ _ => rfl))) (fun p395 => (lx_var 2 cp_it rfl))) (fun v_digit_396 p397 => (lb_setix 0 (lx_fdiv (lx_ix lm_ow.w (lo_var 0 rfl) (fun p398 => lx_int) (fun _ _ => rfl)) (fun p400 => (lx_var 2 cp_it rfl))) (fun _ => rfl) (fun y401 p402 => lx_int) (fun _ _ _ => rfl) (fun y401 p402 j403 p404 z405 => (lb_ret (lx_var 5 cp_it rfl) (fun p => z405) (fun p => (.keep (.drop (.drop (.keep (.keep (.drop Sub.nil))))))))))))))
    (by first | (unfold m__law_draw; dsimp only [id]; done) | (unfold m__law_draw; dsimp only [id]; rfl) | rfl)
abbrev n__law_blob : List Str := ["state", "script", "size", "cells", "dense", "y", "x"]
theorem sc__law_blob : FnScope n__law_blob ["state", "script", "size"] (defScope s__law_blob) := ⟨rfl, rfl, rfl, by decide +kernel, rfl, by decide +kernel, by decide +kernel⟩
abbrev sp__law_blob (K : Fg) : Sp := spI K (ls (it eI)) (fun a : List Int × Int × Unit => [.st none (List Int) scr a.1, .st none Int (it eI) a.2.1]) (it (eL (eT2 eI eI))) (fun t0 a => m__law_blob t0 a.1 a.2.1)
set_option maxHeartbeats 0 in
theorem ok__law_blob (fa : Fa K mg) : FnOk P w K mg base CX0 2 fa.f__law_blob fa.fd__law_blob ["state", "script", "size"] (sp__law_blob K) := by
  refine fnI fa.F__law_blob sc__law_blob 4 rfl (fun _ => rfl) fun cdv A' outer s H E hr => ?_
  have nd := sc__law_blob.nd
  have hu := hr.units
  have hu5 : (A'.deeper (envOfC "_law_blob" (defScope s__law_blob) s.heap.objs.size fa.f__law_blob cdv)).units + 65 < cLine := by have := hr.un; omega
  rintro v0 t0 ⟨a_script, a_size, _⟩
  exact lb_use (env := [.st (some v0) (List Int) (ls (it eI)) t0, .st none (List Int) scr a_script, .st none Int (it eI) a_size, .un, .un, .un, .un])
    (lb_set 3 nd (lx_list la_nil (eT2 eI eI) (fun _ => []) (fun _ => .nil)) (fun v_cells_407 p408 => (lb_set 4 nd (lx_add lx_int (fun p409 => (lx_callI 0 (ok__law_draw fa) (hr.mono (by decide)) fa.g__law_draw fa.F__law_draw.kp fa.b__law_draw (fun _ => (.cons cp_scr (.cons cp_it .nil))) rfl (la_cons (lx_var 1 cp_scr rfl) (fun p410 => (la_cons lx_int (fun p411 => la_nil)))) (fun _ => rfl)))) (fun v_dense_413 p414 => (lb_for (envT := (fun t416 : ((List Int) × (List (Int × Int))) => [.st (some v0) (List Int) (ls (it eI)) t416.1, .st none (List Int) scr a_script, .st none Int (it eI) a_size, .st none (List (Int × Int)) (ls (it (eT2 eI eI))) t416.2, .st none Int (it eI) v_dense_413, .un, .un])) PassesOwn.never rfl (li_range1 (by rfl) fa.z_range (lx_var 2 cp_it rfl)) (fun p415 => (p414.2.2, v_cells_407)) (fun p415 => (Sub.refl _)) (fun t416 => (lg_name 5 nd)) (fun x417 t416 kc418 kb419 => (lb_for (envT := (fun t421 : ((List Int) × (List (Int × Int))) => [.st (some v0) (List Int) (ls (it eI)) t421.1, .st none (List Int) scr a_script, .st none Int (it eI) a_size, .st none (List (Int × Int)) (ls (it (eT2 eI eI))) t421.2, .st none Int (it eI) v_dense_413, .st none Int (it eI) x417, .un])) PassesOwn.never rfl (li_range1 (by rfl) fa.z_range (lx_var 2 cp_it rfl)) (fun p420 => (t416.1, t416.2)) (fun p420 => (Sub.refl _)) (fun t421 => (lg_name 6 nd)) (fun x422 t421 kc423 kb424 => (lb_if (env1 := (fun j430 : ((List Int) × (List (Int × Int))) => [.st (some v0) (List Int) (ls (it eI)) j430.1, .st none (List Int) scr a_script, .st none Int (it eI) a_size, .st none (List (Int × Int)) (ls (it (eT2 eI eI))) j430.2, .st none Int (it eI) v_dense_413, .st none Int (it eI) x417, .st none Int (it eI) x422])) (lt_cmp (lc_lt (lx_callI 0 (ok__law_draw fa) (hr.mono (by decide)) fa.g__law_draw fa.F__law_draw.kp fa.b__law_draw (fun _ => (.cons cp_scr (.cons cp_it .nil))) rfl (la_cons (lx_var 1 cp_scr rfl) (fun p425 => (la_cons lx_int (fun p426 => la_nil)))) (fun _ => rfl)) (fun p428 => (lx_var 4 cp_it rfl))) (nomark _)) (fun p429 => (lb_app 3 rfl (lx_tup (la_cons (lx_var 6 cp_it rfl) (fun p434 => (la_cons (lx_var 5 cp_it rfl) (fun p435 => la_nil)))) (eT2 eI eI) (fun a : Int × Int × Unit => (a.1, a.2.1)) (fun a => [eI.enc a.1, eI.enc a.2.1]) (fun _ => (.cons (.cons .nil))) (fun _ => rfl)) (fun _ => rfl) (fun y433 p432 => (lb_end (p429.1.2, (t421.2 ++ [y433])) (Sub.refl _))))) (fun p429 => (lb_end (p429.1.2, t421.2) (Sub.refl _))) (fun j430 => (lb_end (j430.1, j430.2) (.keep (.keep (.keep (.keep (.keep (.keep (.drop Sub.nil))))))))))) (fun t437 => (lb_end (t437.1, t437.2) (.keep (.keep (.keep (.keep (.keep (.drop (.keep Sub.nil))))))))))) (fun t439 => (lb_ret (lx_frz 3 (fz_ls fz_it) rfl) (fun p => t439.1) (fun p => (.keep (.drop (.drop (.drop (.drop (.keep (.keep Sub.nil)))))))))))))))
    (by first | (unfold m__law_blob; dsimp only [id]; done) | (unfold m__law_blob; dsimp only [id]; rfl) | rfl)
abbrev n__law_region : List Str := ["cells", "found", "y", "x", "cell"]
theorem sc__law_region : FnScope n__law_region ["cells"] (defScope s__law_region) := ⟨rfl, rfl, rfl, by decide +kernel, rfl, by decide +kernel, by decide +kernel⟩
abbrev sp__law_region (K : Fg) : Sp := spP K (fun a : (List (Int × Int)) × Unit => [.st none (List (Int × Int)) (it (eL (eT2 eI eI))) a.1]) (it (eL (eT3 eI eI eI))) (fun a => m__law_region a.1)
set_option maxHeartbeats 0 in
theorem ok__law_region (fa : Fa K mg) : FnOk P w K mg base CX0 1 fa.f__law_region fa.fd__law_region ["cells"] (sp__law_region K) := by
  refine fnP fa.F__law_region sc__law_region 4 rfl (fun _ => rfl) fun cdv A' outer s H E hr => ?_
  have nd := sc__law_region.nd
  have hu := hr.units
  have hu5 : (A'.deeper (envOfC "_law_region" (defScope s__law_region) s.heap.objs.size fa.f__law_region cdv)).units + 65 < cLine := by have := hr.un; omega
  rintro ⟨a_cells, _⟩
  exact lb_use (env := [.st none (List (Int × Int)) (it (eL (eT2 eI eI))) a_cells, .un, .un, .un, .un])
    (lb_set 1 nd (lx_list la_nil (eT3 eI eI eI) (fun _ => []) (fun _ => .nil)) (fun v_found_441 p442 => (lb_for (envT := (fun t455 : (List (Int × Int × Int)) => [.st none (List (Int × Int)) (it (eL (eT2 eI eI))) a_cells, .st none (List (Int × Int × Int)) (ls (it (eT3 eI eI eI))) t455, .un, .un, .un])) PassesOwn.never rfl (li_list lm_ow.w (lx_sorted hu (odT2 evI odI odI) soT2 (dtT2 dtI dtI) lm_ow.w fa.z_sorted (lo_of (lx_lc (envT := (fun t444 : Unit => [.st none (List (Int × Int)) (it (eL (eT2 eI eI))) a_cells, .st none (List (Int × Int × Int)) (ls (it (eT3 eI eI eI))) v_found_441, .un, .un, .un])) rfl nd (blkOk_by (N := n__law_region) (sc := defScope s__law_region) (own := [("cell", 4)]) (by decide +kernel)) (li_list lm_sh.w (lx_var 0 cp_it rfl)) (fun p443 => ()) (fun p443 => (Sub.refl _)) (by intro t i s hm he; simp at hm; subst hm; (have e := Option.some.inj he; exact e.symm)) (fun _ _ _ _ _ t444 => (lg_name 4 nd)) (fun _ _ _ _ _ t444 x445 => ltl_nil) (fun _ _ _ _ _ t444 x445 p446 => (lx_tup (la_cons (lx_part part2_1 (lx_var 4 cp_it rfl)) (fun p447 => (la_cons (lx_part part2_0 (lx_var 4 cp_it rfl)) (fun p448 => la_nil)))) (eT2 eI eI) (fun a : Int × Int × Unit => (a.1, a.2.1)) (fun a => [eI.enc a.1, eI.enc a.2.1]) (fun _ => (.cons (.cons .nil))) (fun _ => rfl))) (fun t444 x445 p446 p449 => ()) (fun t444 x445 p446 p449 => by exact (.keep (.keep (.keep (.keep (.drop Sub.nil)))))) (fun t444 x445 p446 => ()) (fun t444 x445 p446 => by exact (.keep (.keep (.keep (.keep (.drop Sub.nil)))))))) (fun _ => trivial))) (fun p454 => v_found_441) (fun p454 => (Sub.refl _)) (fun t455 => (lg_tup (E := (eT2 eI eI)) (lgs_cons (lg_name 2 nd) (fun _ => (lgs_cons (lg_name 3 nd) (fun _ => lgs_nil)))) (fun x => (x.1, x.2, ())) (fun a : Int × Int × Unit => [eI.enc (a.1), eI.enc (a.2.1)]) (fun _ => (.cons (.cons .nil))) (fun _ => rfl) rfl (fun _ => rfl))) (fun x456 t455 kc457 kb458 => (lb_if (env1 := (fun j470 : (List (Int × Int × Int)) => [.st none (List (Int × Int)) (it (eL (eT2 eI eI))) a_cells, .st none (List (Int × Int × Int)) (ls (it (eT3 eI eI eI))) j470, .st none Int (it eI) x456.1, .st none Int (it eI) x456.2, .un])) (lt_w (lw_and (lt_cmp (lc_gt (lx_len lm_ow.w fa.z_len (lo_var 1 rfl) (fun _ => rfl)) (fun p459 => lx_int)) (nomark _)) (fun p460 => (lw_and (lt_cmp (lc_eqI (lx_part part3_0 (lx_ix lm_ow.w (lo_var 1 rfl) (fun p461 => (lx_neg lx_int)) (fun _ _ => rfl))) (fun p463 => (lx_var 2 cp_it rfl))) (nomark _)) (fun p464 => (lw_and1 (lt_cmp (lc_eqI (lx_part part3_2 (lx_ix lm_ow.w (lo_var 1 rfl) (fun p465 => (lx_neg lx_int)) (fun _ _ => rfl))) (fun p467 => (lx_sub (lx_var 3 cp_it rfl) (fun p468 => lx_int)))) (nomark _)))) (fun p464 _ => Sub.refl _))) (fun p460 _ => Sub.refl _))) (fun p469 => (lb_setix 1 (lx_tup (la_cons (lx_var 2 cp_it rfl) (fun p472 => (la_cons (lx_part part3_1 (lx_ix lm_ow.w (lo_var 1 rfl) (fun p473 => (lx_neg lx_int)) (fun _ _ => rfl))) (fun p475 => (la_cons (lx_var 3 cp_it rfl) (fun p476 => la_nil)))))) (eT3 eI eI eI) (fun a : Int × Int × Int × Unit => (a.1, a.2.1, a.2.2.1)) (fun a => [eI.enc a.1, eI.enc a.2.1, eI.enc a.2.2.1]) (fun _ => (.cons (.cons (.cons .nil)))) (fun _ => rfl)) (fun _ => rfl) (fun y477 p478 => (lx_neg lx_int)) (fun _ _ _ => rfl) (fun y477 p478 j479 p480 z481 => (lb_end z481 (Sub.refl _))))) (fun p469 => (lb_if (env1 := (fun j493 : (List (Int × Int × Int)) => [.st none (List (Int × Int)) (it (eL (eT2 eI eI))) a_cells, .st none (List (Int × Int × Int)) (ls (it (eT3 eI eI eI))) j493, .st none Int (it eI) x456.1, .st none Int (it eI) x456.2, .un])) (lt_w (lw_or (lt_cmp (lc_eqI (lx_len lm_ow.w fa.z_len (lo_var 1 rfl) (fun _ => rfl)) (fun p483 => lx_int)) (nomark _)) (fun p484 => (lw_or (lt_cmp (lc_neI (lx_part part3_0 (lx_ix lm_ow.w (lo_var 1 rfl) (fun p485 => (lx_neg lx_int)) (fun _ _ => rfl))) (fun p487 => (lx_var 2 cp_it rfl))) (nomark _)) (fun p488 => (lw_or1 (lt_cmp (lc_neI (lx_part part3_2 (lx_ix lm_ow.w (lo_var 1 rfl) (fun p489 => (lx_neg lx_int)) (fun _ _ => rfl))) (fun p491 => (lx_var 3 cp_it rfl))) (nomark _)))) (fun p488 _ => Sub.refl _))) (fun p484 _ => Sub.refl _))) (fun p492 => (lb_app 1 rfl (lx_tup (la_cons (lx_var 2 cp_it rfl) (fun p497 => (la_cons (lx_var 3 cp_it rfl) (fun p498 => (la_cons (lx_var 3 cp_it rfl) (fun p499 => la_nil)))))) (eT3 eI eI eI) (fun a : Int × Int × Int × Unit => (a.1, a.2.1, a.2.2.1)) (fun a => [eI.enc a.1, eI.enc a.2.1, eI.enc a.2.2.1]) (fun _ => (.cons (.cons (.cons .nil)))) (fun _ => rfl)) (fun _ => rfl) (fun y496 p495 => (lb_end (t455 ++ [y496]) (Sub.refl _))))) (fun p492 => (lb_end t455 (Sub.refl _))) (fun j493 => (lb_end j493 (Sub.refl _))))) (fun j470 => (lb_end j470 (.keep (.keep (.drop (.drop (.keep Sub.nil))))))))) (fun t505 => (lb_ret (lx_frz 1 (fz_ls fz_it) rfl) (fun _ => ()) (fun p => (.drop (.drop (.keep (.keep (.keep Sub.nil)))))))))))
    (by first | (unfold m__law_region; dsimp only [id]; done) | (unfold m__law_region; dsimp only [id]; rfl) | rfl)
abbrev n__law_square : List Str := ["cell", "side", "found", "x", "y"]
theorem sc__law_square : FnScope n__law_square ["cell", "side"] (defScope s__law_square) := ⟨rfl, rfl, rfl, by decide +kernel, rfl, by decide +kernel, by decide +kernel⟩
abbrev sp__law_square (K : Fg) : Sp := spP K (fun a : (Int × Int) × Int × Unit => [.st none (Int × Int) (it (eT2 eI eI)) a.1, .st none Int (it eI) a.2.1]) (it (eL (eT2 eI eI))) (fun a => m__law_square a.1 a.2.1)
set_option maxHeartbeats 0 in
theorem ok__law_square (fa : Fa K mg) : FnOk P w K mg base CX0 1 fa.f__law_square fa.fd__law_square ["cell", "side"] (sp__law_square K) := by
  refine fnP fa.F__law_square sc__law_square 3 rfl (fun _ => rfl) fun cdv A' outer s H E hr => ?_
  have nd := sc__law_square.nd
  have hu := hr.units
  have hu5 : (A'.deeper (envOfC "_law_square" (defScope s__law_square) s.heap.objs.size fa.f__law_square cdv)).units + 65 < cLine := by have := hr.un; omega
  rintro ⟨a_cell, a_side, _⟩
  exact lb_use (env := [.st none (Int × Int) (it (eT2 eI eI)) a_cell, .st none Int (it eI) a_side, .un, .un, .un])
    (lb_set 2 nd (lx_list la_nil (eT2 eI eI) (fun _ => []) (fun _ => .nil)) (fun v_found_507 p508 => (lb_for (envT := (fun t510 : (List (Int × Int)) => [.st none (Int × Int) (it (eT2 eI eI)) a_cell, .st none Int (it eI) a_side, .st none (List (Int × Int)) (ls (it (eT2 eI eI))) t510, .un, .un])) PassesOwn.never rfl (li_range1 (by rfl) fa.z_range (lx_var 1 cp_it rfl)) (fun p509 => v_found_507) (fun p509 => (Sub.refl _)) (fun t510 => (lg_name 3 nd)) (fun x511 t510 kc512 kb513 => (lb_set 2 nd (lx_cat lm_ow lm_ow (lo_var 2 rfl) (fun p514 => (lo_of (lx_lc (envT := (fun t516 : Unit => [.st none (Int × Int) (it (eT2 eI eI)) a_cell, .st none Int (it eI) a_side, .st none (List (Int × Int)) (ls (it (eT2 eI eI))) t510, .st none Int (it eI) x511, .un])) rfl nd (blkOk_by (N := n__law_square) (sc := defScope s__law_square) (own := [("y", 4)]) (by decide +kernel)) (li_range1 (by rfl) fa.z_range (lx_var 1 cp_it rfl)) (fun p515 => ()) (fun p515 => (Sub.refl _)) (by intro t i s hm he; simp at hm; subst hm; (have e := Option.some.inj he; exact e.symm)) (fun _ _ _ _ _ t516 => (lg_name 4 nd)) (fun _ _ _ _ _ t516 x517 => ltl_nil) (fun _ _ _ _ _ t516 x517 p518 => (lx_tup (la_cons (lx_add (lx_part part2_0 (lx_var 0 cp_it rfl)) (fun p519 => (lx_var 3 cp_it rfl))) (fun p520 => (la_cons (lx_add (lx_part part2_1 (lx_var 0 cp_it rfl)) (fun p521 => (lx_var 4 cp_it rfl))) (fun p522 => la_nil)))) (eT2 eI eI) (fun a : Int × Int × Unit => (a.1, a.2.1)) (fun a => [eI.enc a.1, eI.enc a.2.1]) (fun _ => (.cons (.cons .nil))) (fun _ => rfl))) (fun t516 x517 p518 p523 => ()) (fun t516 x517 p518 p523 => by exact (.keep (.keep (.keep (.keep (.drop Sub.nil)))))) (fun t516 x517 p518 => ()) (fun t516 x517 p518 => by exact (.keep (.keep (.keep (.keep (.drop Sub.nil))))))))) (fun _ _ => rfl) (fun _ _ => trivial)) (fun v_found_529 p530 => (lb_end v_found_529 (.keep (.keep (.keep (.drop (.keep Sub.nil))))))))) (fun t531 => (lb_ret (lx_frz 2 (fz_ls fz_it) rfl) (fun _ => ()) (fun p => (.drop (.drop (.drop (.keep (.keep Sub.nil)))))))))))
    (by first | (unfold m__law_square; dsimp only [id]; done) | (unfold m__law_square; dsimp only [id]; rfl) | rfl)
abbrev n__law_each : List Str := ["cells", "found", "k"]
theorem sc__law_each : FnScope n__law_each ["cells"] (defScope s__law_each) := ⟨rfl, rfl, rfl, by decide +kernel, rfl, by decide +kernel, by decide +kernel⟩
abbrev sp__law_each (K : Fg) : Sp := spP K (fun a : (List (Int × Int)) × Unit => [.st none (List (Int × Int)) (it (eL (eT2 eI eI))) a.1]) (it (eL (eT2 eI eI))) (fun a => m__law_each a.1)
set_option maxHeartbeats 0 in
theorem ok__law_each (fa : Fa K mg) : FnOk P w K mg base CX0 1 fa.f__law_each fa.fd__law_each ["cells"] (sp__law_each K) := by
  refine fnP fa.F__law_each sc__law_each 2 rfl (fun _ => rfl) fun cdv A' outer s H E hr => ?_
  have nd := sc__law_each.nd
  have hu := hr.units
  have hu5 : (A'.deeper (envOfC "_law_each" (defScope s__law_each) s.heap.objs.size fa.f__law_each cdv)).units + 65 < cLine := by have := hr.un; omega
  rintro ⟨a_cells, _⟩
  exact lb_use (env := [.st none (List (Int × Int)) (it (eL (eT2 eI eI))) a_cells, .un, .un])
    (lb_set 1 nd (lx_sorted hu (odT2 evI odI odI) soT2 (dtT2 dtI dtI) lm_sh.w fa.z_sorted (lo_of (lx_var 0 cp_it rfl)) (fun _ => trivial)) (fun v_found_534 p535 => (lb_ret (lx_sh (fz_ls fz_it) (lx_lc (envT := (fun t537 : Unit => [.st none (List (Int × Int)) (it (eL (eT2 eI eI))) a_cells, .st none (List (Int × Int)) (ls (it (eT2 eI eI))) v_found_534, .un])) rfl nd (blkOk_by (N := n__law_each) (sc := defScope s__law_each) (own := [("k", 2)]) (by decide +kernel)) (li_range1 (by rfl) fa.z_range (lx_len lm_ow.w fa.z_len (lo_var 1 rfl) (fun _ => rfl))) (fun p536 => ()) (fun p536 => (Sub.refl _)) (by intro t i s hm he; simp at hm; subst hm; (have e := Option.some.inj he; exact e.symm)) (fun _ _ _ _ _ t537 => (lg_name 2 nd)) (fun _ _ _ _ _ t537 x538 => (ltl_one (lt_w (lw_or (lt_cmp (lc_eqI (lx_var 2 cp_it rfl) (fun p539 => lx_int)) (nomark _)) (fun p540 => (lw_or1 (lt_cmp (lc_neT hu dv_it dv_it (dtT2 dtI dtI) (evT2 evI evI) (lo_of (lx_ix lm_ow.w (lo_var 1 rfl) (fun p541 => (lx_var 2 cp_it rfl)) (fun _ _ => rfl))) (fun p543 => (lo_of (lx_ix lm_ow.w (lo_var 1 rfl) (fun p544 => (lx_sub (lx_var 2 cp_it rfl) (fun p545 => lx_int))) (fun _ _ => rfl)))) (fun _ _ => trivial) (fun _ _ => trivial)) (nomark _)))) (fun p540 _ => Sub.refl _))))) (fun _ _ _ _ _ t537 x538 p547 => (lx_ix lm_ow.w (lo_var 1 rfl) (fun p548 => (lx_var 2 cp_it rfl)) (fun _ _ => rfl))) (fun t537 x538 p547 p550 => ()) (fun t537 x538 p547 p550 => by exact (.keep (.keep (.drop Sub.nil)))) (fun t537 x538 p547 => ()) (fun t537 x538 p547 => by exact (.keep (.keep (.drop Sub.nil)))))) (fun _ => ()) (fun p => (.drop (.drop (.keep Sub.nil)))))))
    (by first | (unfold m__law_each; dsimp only [id]; done) | (unfold m__law_each; dsimp only [id]; rfl) | rfl)
abbrev n__law_swept : List Str := ["cells", "side", "found", "cell"]
theorem sc__law_swept : FnScope n__law_swept ["cells", "side"] (defScope s__law_swept) := ⟨rfl, rfl, rfl, by decide +kernel, rfl, by decide +kernel, by decide +kernel⟩
abbrev sp__law_swept (K : Fg) : Sp := spP K (fun a : (List (Int × Int)) × Int × Unit => [.st none (List (Int × Int)) (it (eL (eT2 eI eI))) a.1, .st none Int (it eI) a.2.1]) (it (eL (eT2 eI eI))) (fun a => m__law_swept a.1 a.2.1)
set_option maxHeartbeats 0 in
theorem ok__law_swept (fa : Fa K mg) : FnOk P w K mg base CX0 2 fa.f__law_swept fa.fd__law_swept ["cells", "side"] (sp__law_swept K) := by
  refine fnP fa.F__law_swept sc__law_swept 2 rfl (fun _ => rfl) fun cdv A' outer s H E hr => ?_
  have nd := sc__law_swept.nd
  have hu := hr.units
  have hu5 : (A'.deeper (envOfC "_law_swept" (defScope s__law_swept) s.heap.objs.size fa.f__law_swept cdv)).units + 65 < cLine := by have := hr.un; omega
  rintro ⟨a_cells, a_side, _⟩
  exact lb_use (env := [.st none (List (Int × Int)) (it (eL (eT2 eI eI))) a_cells, .st none Int (it eI) a_side, .un, .un])
    (lb_set 2 nd (lx_list la_nil (eT2 eI eI) (fun _ => []) (fun _ => .nil)) (fun v_found_555 p556 => (lb_for (envT := (fun t558 : (List (Int × Int)) => [.st none (List (Int × Int)) (it (eL (eT2 eI eI))) a_cells, .st none Int (it eI) a_side, .st none (List (Int × Int)) (ls (it (eT2 eI eI))) t558, .un])) PassesOwn.never rfl (li_list lm_sh.w (lx_var 0 cp_it rfl)) (fun p557 => v_found_555) (fun p557 => (Sub.refl _)) (fun t558 => (lg_name 3 nd)) (fun x559 t558 kc560 kb561 => (lb_set 2 nd (lx_cat lm_ow lm_sh (lo_var 2 rfl) (fun p562 => (lo_of (lx_call (ok__law_square fa) (hr.mono (by decide)) fa.g__law_square fa.F__law_square.kp fa.b__law_square (fun _ => (.cons cp_it (.cons cp_it .nil))) (la_cons (lx_var 3 cp_it rfl) (fun p563 => (la_cons (lx_var 1 cp_it rfl) (fun p564 => la_nil))))))) (fun _ _ => rfl) (fun _ _ => trivial)) (fun v_found_568 p569 => (lb_end v_found_568 (.keep (.keep (.keep (.drop Sub.nil)))))))) (fun t570 => (lb_ret (lx_call (ok__law_each fa) (hr.mono (by decide)) fa.g__law_each fa.F__law_each.kp fa.b__law_each (fun _ => (.cons cp_it .nil)) (la_cons (lx_frz 2 (fz_ls fz_it) rfl) (fun p571 => la_nil))) (fun _ => ()) (fun p => (.drop (.drop (.drop (.keep Sub.nil))))))))))
    (by first | (unfold m__law_swept; dsimp only [id]; done) | (unfold m__law_swept; dsimp only [id]; rfl) | rfl)
abbrev n__law_shrunk : List Str := ["cells", "side", "cell", "one"]
theorem sc__law_shrunk : FnScope n__law_shrunk ["cells", "side"] (defScope s__law_shrunk) := ⟨rfl, rfl, rfl, by decide +kernel, rfl, by decide +kernel, by decide +kernel⟩
abbrev sp__law_shrunk (K : Fg) : Sp := spP K (fun a : (List (Int × Int)) × Int × Unit => [.st none (List (Int × Int)) (it (eL (eT2 eI eI))) a.1, .st none Int (it eI) a.2.1]) (it (eL (eT2 eI eI))) (fun a => m__law_shrunk a.1 a.2.1)
set_option maxHeartbeats 0 in
theorem ok__law_shrunk (fa : Fa K mg) : FnOk P w K mg base CX0 2 fa.f__law_shrunk fa.fd__law_shrunk ["cells", "side"] (sp__law_shrunk K) := by
  refine fnP fa.F__law_shrunk sc__law_shrunk 2 rfl (fun _ => rfl) fun cdv A' outer s H E hr => ?_
  have nd := sc__law_shrunk.nd
  have hu := hr.units
  have hu5 : (A'.deeper (envOfC "_law_shrunk" (defScope s__law_shrunk) s.heap.objs.size fa.f__law_shrunk cdv)).units + 65 < cLine := by have := hr.un; omega
  rintro ⟨a_cells, a_side, _⟩
  exact lb_use (env := [.st none (List (Int × Int)) (it (eL (eT2 eI eI))) a_cells, .st none Int (it eI) a_side, .un, .un])
    (lb_ret (lx_sh (fz_ls fz_it) (lx_lc (envT := (fun t575 : Unit => [.st none (List (Int × Int)) (it (eL (eT2 eI eI))) a_cells, .st none Int (it eI) a_side, .un, .un])) rfl nd (blkOk_by (N := n__law_shrunk) (sc := defScope s__law_shrunk) (own := [("cell", 2)]) (by decide +kernel)) (li_list lm_sh.w (lx_var 0 cp_it rfl)) (fun p574 => ()) (fun p574 => (Sub.refl _)) (by intro t i s hm he; simp at hm; subst hm; (have e := Option.some.inj he; exact e.symm)) (fun _ _ _ _ _ t575 => (lg_name 2 nd)) (fun _ _ _ _ _ t575 x576 => (ltl_one (lt_cmp (lc_eqI (lx_len lm_ow.w fa.z_len (lo_of (lx_lc (envT := (fun t581 : Unit => [.st none (List (Int × Int)) (it (eL (eT2 eI eI))) a_cells, .st none Int (it eI) a_side, .st none (Int × Int) (it (eT2 eI eI)) x576, .un])) rfl nd (blkOk_by (own := [("one", 3)]) (by rfl)) (li_list lm_sh.w (lx_call (ok__law_square fa) (hr.mono (by decide)) fa.g__law_square fa.F__law_square.kp fa.b__law_square (fun _ => (.cons cp_it (.cons cp_it .nil))) (la_cons (lx_var 2 cp_it rfl) (fun p577 => (la_cons (lx_var 1 cp_it rfl) (fun p578 => la_nil)))))) (fun p580 => ()) (fun p580 => (Sub.refl _)) (by intro t i s hm he; simp at hm; subst hm; (have e := Option.some.inj he; exact e.symm)) (fun _ _ _ _ _ t581 => (lg_name 3 nd)) (fun _ _ _ _ _ t581 x582 => (ltl_one (lt_cmp (lc_notInT hu5 dv_it dv_it (dtT2 dtI dtI) (evT2 evI evI) (lo_of (lx_var 3 cp_it rfl)) (fun p583 => (lo_of (lx_var 0 cp_it rfl))) (fun _ _ => trivial) (fun _ _ => trivial)) (by rfl)))) (fun _ _ _ _ _ t581 x582 p584 => (lx_var 3 cp_it rfl)) (fun t581 x582 p584 p585 => ()) (fun t581 x582 p584 p585 => by exact (.keep (.keep (.keep (.drop Sub.nil))))) (fun t581 x582 p584 => ()) (fun t581 x582 p584 => by exact (.keep (.keep (.keep (.drop Sub.nil))))))) (fun _ => trivial)) (fun p589 => lx_int)) (nomark _)))) (fun _ _ _ _ _ t575 x576 p590 => (lx_var 2 cp_it rfl)) (fun t575 x576 p590 p591 => ()) (fun t575 x576 p590 p591 => by exact (.keep (.keep (.drop (.keep Sub.nil))))) (fun t575 x576 p590 => ()) (fun t575 x576 p590 => by exact (.keep (.keep (.drop (.keep Sub.nil))))))) (fun _ => ()) (fun p => (.drop (.drop (.keep (.keep Sub.nil))))))
    (by first | (unfold m__law_shrunk; dsimp only [id]; done) | (unfold m__law_shrunk; dsimp only [id]; rfl) | rfl)
abbrev n_law : List Str := ["script", "state", "cells", "region", "kept", "reached", "sides", "_", "side", "small", "cell"]
theorem sc_law : FnScope n_law ["script"] (defScope s_law) := ⟨rfl, rfl, rfl, by decide +kernel, rfl, by decide +kernel, by decide +kernel⟩
abbrev sp_law (K : Fg) : Sp := spP K (fun a : List Int × Unit => [.st none (List Int) scr a.1]) (it eB) (fun a => m_law a.1)
set_option maxHeartbeats 0 in
theorem ok_law (fa : Fa K mg) : FnG P w K mg base 6 fa.f_law fa.fd_law ["script"] (sp_law K) := by
  refine fnPG fa.F_law sc_law 10 rfl (fun _ => rfl) fun cdv A' outer s H E hgd hr => ?_
  have nd := sc_law.nd
  have hu := hr.units
  have hu5 : (A'.deeper (envOfC "law" (defScope s_law) s.heap.objs.size fa.f_law cdv)).units + 65 < cLine := by have := hr.un; omega
  rintro ⟨a_script, _⟩
  exact lb_use (env := [.st none (List Int) scr a_script, .un, .un, .un, .un, .un, .un, .un, .un, .un, .un])
    (lb_set 1 nd (lx_list (la_cons lx_int (fun p595 => (la_cons lx_int (fun p596 => la_nil)))) eI (fun a : Int × Int × Unit => [a.1, a.2.1]) (fun _ => (.cons (.cons .nil)))) (fun v_state_597 p598 => (lb_set 2 nd (lx_callI 1 (ok__law_blob fa) (hr.mono (by decide)) fa.g__law_blob fa.F__law_blob.kp fa.b__law_blob (fun _ => (.cons cp_scr (.cons cp_it .nil))) rfl (la_cons (lx_var 0 cp_scr rfl) (fun p599 => (la_cons (lx_add lx_int (fun p600 => (lx_callI 1 (ok__law_draw fa) (hr.mono (by decide)) fa.g__law_draw fa.F__law_draw.kp fa.b__law_draw (fun _ => (.cons cp_scr (.cons cp_it .nil))) rfl (la_cons (lx_var 0 cp_scr rfl) (fun p601 => (la_cons lx_int (fun p602 => la_nil)))) (fun _ => rfl)))) (fun p604 => la_nil)))) (fun _ => rfl)) (fun v_cells_606 p607 => (lb_set 3 nd (lx_call (ok_region_of fa) (hr.mono (by decide)) fa.g_region_of fa.F_region_of.kp fa.b_region_of (fun _ => (.cons cp_it .nil)) (la_cons (lx_var 2 cp_it rfl) (fun p608 => la_nil))) (fun v_region_610 p611 => (lb_set 4 nd (lx_repr hgd hu dv_it fa.z_repr (lo_of (lx_var 3 cp_it rfl)) (fun _ => trivial)) (fun v_kept_613 p614 => (lb_set 5 nd (lx_list la_nil (eT2 eI eI) (fun _ => []) (fun _ => .nil)) (fun v_reached_615 p616 => (lb_setLc (envT := (fun t621 : (List Int) => [.st none (List Int) scr a_script, .st none (List Int) (ls (it eI)) t621, .st none (List (Int × Int)) (it (eL (eT2 eI eI))) v_cells_606, .st none (List (Int × Int × Int)) (it (eL (eT3 eI eI eI))) v_region_610, .st none Str (it eS) v_kept_613, .st none (List (Int × Int)) (ls (it (eT2 eI eI))) v_reached_615, .un, .un, .un, .un, .un])) rfl nd (blkOk_by (N := n_law) (sc := defScope s_law) (own := [("_", 7)]) (by decide +kernel)) 6 (li_range1 (by rfl) fa.z_range (lx_callI 1 (ok__law_draw fa) (hr.mono (by decide)) fa.g__law_draw fa.F__law_draw.kp fa.b__law_draw (fun _ => (.cons cp_scr (.cons cp_it .nil))) rfl (la_cons (lx_var 0 cp_scr rfl) (fun p617 => (la_cons lx_int (fun p618 => la_nil)))) (fun _ => rfl))) (fun p620 => p620.2) (fun p620 => (Sub.refl _)) (by intro t i s hm he; simp at hm; subst hm; (have e := Option.some.inj he; exact e.symm)) (fun _ _ _ _ _ t621 => (lg_name 7 nd)) (fun _ _ _ _ _ t621 x622 => ltl_nil) (fun _ _ _ _ _ t621 x622 p623 => (lx_add lx_int (fun p624 => (lx_callI 1 (ok__law_draw fa) (hr.mono (by decide)) fa.g__law_draw fa.F__law_draw.kp fa.b__law_draw (fun _ => (.cons cp_scr (.cons cp_it .nil))) rfl (la_cons (lx_var 0 cp_scr rfl) (fun p625 => (la_cons lx_int (fun p626 => la_nil)))) (fun _ => rfl))))) (fun t621 x622 p623 p628 => p628.2.2) (fun t621 x622 p623 p628 => by exact (.keep (.keep (.keep (.keep (.keep (.keep (.keep (.drop (.keep (.keep (.keep Sub.nil)))))))))))) (fun t621 x622 p623 => t621) (fun t621 x622 p623 => by exact (.keep (.keep (.keep (.keep (.keep (.keep (.keep (.drop (.keep (.keep (.keep Sub.nil)))))))))))) (fun v_sides_632 p633 => (lb_for (envT := (fun t641 : Unit => [.st none (List Int) scr a_script, .st none (List Int) (ls (it eI)) p633, .st none (List (Int × Int)) (it (eL (eT2 eI eI))) v_cells_606, .st none (List (Int × Int × Int)) (it (eL (eT3 eI eI eI))) v_region_610, .st none Str (it eS) v_kept_613, .st none (List (Int × Int)) (ls (it (eT2 eI eI))) v_reached_615, .st none (List Int) (ls (it eI)) v_sides_632, .un, .un, .un, .un])) PassesOwn.never rfl (li_list lm_ow.w (lx_cat lm_ow lm_ow (lo_var 6 rfl) (fun p634 => (lo_of (lx_list (la_cons lx_int (fun p635 => (la_cons lx_int (fun p636 => (la_cons lx_int (fun p637 => la_nil)))))) eI (fun a : Int × Int × Int × Unit => [a.1, a.2.1, a.2.2.1]) (fun _ => (.cons (.cons (.cons .nil))))))) (fun _ _ => rfl) (fun _ _ => trivial))) (fun p640 => ()) (fun p640 => (Sub.refl _)) (fun t641 => (lg_name 8 nd)) (fun x642 t641 kc643 kb644 => (lb_set 9 nd (lx_call (ok__law_shrunk fa) (hr.mono (by decide)) fa.g__law_shrunk fa.F__law_shrunk.kp fa.b__law_shrunk (fun _ => (.cons cp_it (.cons cp_it .nil))) (la_cons (lx_var 2 cp_it rfl) (fun p645 => (la_cons (lx_var 8 cp_it rfl) (fun p646 => la_nil))))) (fun v_small_648 p649 => (lb_ifr (lt_w (lw_or (lt_cmp (lc_neT hu dv_it dv_it (dtL (dtT3 dtI dtI dtI)) (evL (evT3 evI evI evI)) (lo_of (lx_call (ok_swept fa) (hr.mono (by decide)) fa.g_swept fa.F_swept.kp fa.b_swept (fun _ => (.cons cp_it (.cons cp_it .nil))) (la_cons (lx_var 3 cp_it rfl) (fun p650 => (la_cons (lx_var 8 cp_it rfl) (fun p651 => la_nil)))))) (fun p653 => (lo_of (lx_call (ok__law_region fa) (hr.mono (by decide)) fa.g__law_region fa.F__law_region.kp fa.b__law_region (fun _ => (.cons cp_it .nil)) (la_cons (lx_call (ok__law_swept fa) (hr.mono (by decide)) fa.g__law_swept fa.F__law_swept.kp fa.b__law_swept (fun _ => (.cons cp_it (.cons cp_it .nil))) (la_cons (lx_var 2 cp_it rfl) (fun p654 => (la_cons (lx_var 8 cp_it rfl) (fun p655 => la_nil))))) (fun p657 => la_nil))))) (fun _ _ => trivial) (fun _ _ => trivial)) (nomark _)) (fun p659 => (lw_or1 (lt_cmp (lc_neT hu dv_it dv_it (dtL (dtT3 dtI dtI dtI)) (evL (evT3 evI evI evI)) (lo_of (lx_call (ok_shrunk fa) (hr.mono (by decide)) fa.g_shrunk fa.F_shrunk.kp fa.b_shrunk (fun _ => (.cons cp_it (.cons cp_it .nil))) (la_cons (lx_var 3 cp_it rfl) (fun p660 => (la_cons (lx_var 8 cp_it rfl) (fun p661 => la_nil)))))) (fun p663 => (lo_of (lx_call (ok__law_region fa) (hr.mono (by decide)) fa.g__law_region fa.F__law_region.kp fa.b__law_region (fun _ => (.cons cp_it .nil)) (la_cons (lx_var 9 cp_it rfl) (fun p664 => la_nil))))) (fun _ _ => trivial) (fun _ _ => trivial)) (nomark _)))) (fun p659 _ => Sub.refl _))) (fun p666 => (lb_ret lx_bl (fun _ => ()) (fun p => (.drop (.drop (.drop (.drop (.drop (.drop (.drop (.keep (.drop (.drop (.keep Sub.nil)))))))))))))) (fun p666 => (lb_ifr (lt_cmp (lc_neT hu dv_it dv_it (dtL (dtT3 dtI dtI dtI)) (evL (evT3 evI evI evI)) (lo_of (lx_call (ok_opened fa) (hr.mono (by decide)) fa.g_opened fa.F_opened.kp fa.b_opened (fun _ => (.cons cp_it (.cons cp_it .nil))) (la_cons (lx_var 3 cp_it rfl) (fun p667 => (la_cons (lx_var 8 cp_it rfl) (fun p668 => la_nil)))))) (fun p670 => (lo_of (lx_call (ok__law_region fa) (hr.mono (by decide)) fa.g__law_region fa.F__law_region.kp fa.b__law_region (fun _ => (.cons cp_it .nil)) (la_cons (lx_call (ok__law_swept fa) (hr.mono (by decide)) fa.g__law_swept fa.F__law_swept.kp fa.b__law_swept (fun _ => (.cons cp_it (.cons cp_it .nil))) (la_cons (lx_var 9 cp_it rfl) (fun p671 => (la_cons (lx_var 8 cp_it rfl) (fun p672 => la_nil))))) (fun p674 => la_nil))))) (fun _ _ => trivial) (fun _ _ => trivial)) (nomark _)) (fun p676 => (lb_ret lx_bl (fun _ => ()) (fun p => (.drop (.drop (.drop (.drop (.drop (.drop (.drop (.keep (.drop (.drop (.keep Sub.nil)))))))))))))) (fun p676 => (lb_end () (.keep (.keep (.keep (.keep (.keep (.keep (.keep (.keep (.drop (.drop (.keep Sub.nil))))))))))))))))))) (fun t678 => (lb_for (envT := (fun t680 : (List (Int × Int)) => [.st none (List Int) scr a_script, .st none (List Int) (ls (it eI)) p633, .st none (List (Int × Int)) (it (eL (eT2 eI eI))) v_cells_606, .st none (List (Int × Int × Int)) (it (eL (eT3 eI eI eI))) v_region_610, .st none Str (it eS) v_kept_613, .st none (List (Int × Int)) (ls (it (eT2 eI eI))) t680, .st none (List Int) (it (eL eI)) v_sides_632, .un, .un, .un, .un])) PassesOwn.never rfl (li_list lm_sh.w (lx_frz 6 (fz_ls fz_it) rfl)) (fun p679 => v_reached_615) (fun p679 => (Sub.refl _)) (fun t680 => (lg_name 8 nd)) (fun x681 t680 kc682 kb683 => (lb_set 5 nd (lx_cat lm_ow lm_sh (lo_var 5 rfl) (fun p684 => (lo_of (lx_call (ok__law_swept fa) (hr.mono (by decide)) fa.g__law_swept fa.F__law_swept.kp fa.b__law_swept (fun _ => (.cons cp_it (.cons cp_it .nil))) (la_cons (lx_call (ok__law_shrunk fa) (hr.mono (by decide)) fa.g__law_shrunk fa.F__law_shrunk.kp fa.b__law_shrunk (fun _ => (.cons cp_it (.cons cp_it .nil))) (la_cons (lx_var 2 cp_it rfl) (fun p685 => (la_cons (lx_var 8 cp_it rfl) (fun p686 => la_nil))))) (fun p688 => (la_cons (lx_var 8 cp_it rfl) (fun p689 => la_nil))))))) (fun _ _ => rfl) (fun _ _ => trivial)) (fun v_reached_693 p694 => (lb_end v_reached_693 (.keep (.keep (.keep (.keep (.keep (.keep (.keep (.keep (.drop (.keep (.keep Sub.nil))))))))))))))) (fun t695 => (lb_ret (lx_and (lx_cmp (lc_eqT hu dv_it dv_it (dtL (dtT3 dtI dtI dtI)) (evL (evT3 evI evI evI)) (lo_of (lx_call (ok_rest fa) (hr.mono (by decide)) fa.g_rest fa.F_rest.kp fa.b_rest (fun _ => (.cons cp_it (.cons cp_it .nil))) (la_cons (lx_var 3 cp_it rfl) (fun p696 => (la_cons (lx_var 6 cp_it rfl) (fun p697 => la_nil)))))) (fun p699 => (lo_of (lx_call (ok__law_region fa) (hr.mono (by decide)) fa.g__law_region fa.F__law_region.kp fa.b__law_region (fun _ => (.cons cp_it .nil)) (la_cons (lx_sh (fz_ls fz_it) (lx_lc (envT := (fun t701 : Unit => [.st none (List Int) scr a_script, .st none (List Int) (ls (it eI)) p633, .st none (List (Int × Int)) (it (eL (eT2 eI eI))) v_cells_606, .st none (List (Int × Int × Int)) (it (eL (eT3 eI eI eI))) v_region_610, .st none Str (it eS) v_kept_613, .st none (List (Int × Int)) (ls (it (eT2 eI eI))) t695, .st none (List Int) (it (eL eI)) v_sides_632, .un, .un, .un, .un])) rfl nd (blkOk_by (N := n_law) (sc := defScope s_law) (own := [("cell", 10)]) (by decide +kernel)) (li_list lm_sh.w (lx_var 2 cp_it rfl)) (fun p700 => ()) (fun p700 => (Sub.refl _)) (by intro t i s hm he; simp at hm; subst hm; (have e := Option.some.inj he; exact e.symm)) (fun _ _ _ _ _ t701 => (lg_name 10 nd)) (fun _ _ _ _ _ t701 x702 => (ltl_one (lt_cmp (lc_notInT hu5 dv_it (dv_ls dv_it) (dtT2 dtI dtI) (evT2 evI evI) (lo_of (lx_var 10 cp_it rfl)) (fun p703 => (lo_var 5 rfl)) (fun _ _ => trivial) (fun _ _ => rfl)) (by rfl)))) (fun _ _ _ _ _ t701 x702 p704 => (lx_var 10 cp_it rfl)) (fun t701 x702 p704 p705 => ()) (fun t701 x702 p704 p705 => by exact (.keep (.keep (.keep (.keep (.keep (.keep (.keep (.keep (.keep (.keep (.drop Sub.nil)))))))))))) (fun t701 x702 p704 => ()) (fun t701 x702 p704 => by exact (.keep (.keep (.keep (.keep (.keep (.keep (.keep (.keep (.keep (.keep (.drop Sub.nil)))))))))))))) (fun p709 => la_nil))))) (fun _ _ => trivial) (fun _ _ => trivial)) (nomark _)) (fun p711 => (lx_one (lx_cmp (lc_eqS (lx_repr hgd hu dv_it fa.z_repr (lo_of (lx_var 3 cp_it rfl)) (fun _ => trivial)) (fun p713 => (lx_var 4 cp_it rfl))) (nomark _)))) (fun p711 _ => Sub.refl _)) (fun _ => ()) (fun p => (.drop (.drop (.drop (.drop (.drop (.drop (.drop (.keep (.keep (.keep (.keep Sub.nil)))))))))))))))))) (sw_true rfl rfl rfl (by decide +kernel)))))))))))))
    (by first | (unfold m_law; dsimp only [id]; done) | (unfold m_law; dsimp only [id]; rfl) | rfl)
end
/-! ### regions -/
theorem joint_ok {L : List Sp3} (hv : ∀ s ∈ L, s.2.1 ≤ s.2.2) (hl : L.length ≤ SZ) : ∃ R, m_joint L = some R ∧ Can R ∧ (∀ x y, InS R x y ↔ InS L x y) ∧ R.length ≤ L.length := by
  obtain ⟨a, b, c⟩ := norm_ok hv
  refine ⟨_, ?_, a, b, c⟩
  unfold m_joint
  dsimp only
  rw [Option.bind_some]
  exact forO_grow stepJ SZ stepJ_len _ _ (by rw [sortB_len]; simpa using hl) fun x _ t kc h => stepJ_run h
theorem region_ok {L : List (Int × Int)} (hl : L.length ≤ SZ) : ∃ R, m_region_of L = some R ∧ Can R ∧ (∀ x y, InS R x y ↔ (x, y) ∈ L) ∧ R.length ≤ L.length := by
  obtain ⟨a, b, c⟩ := cells_ok (L := L)
  refine ⟨_, ?_, a, b, c⟩
  unfold m_region_of
  dsimp only
  refine (compO_map (fun c : Int × Int => (c.2, c.1)) () L [] (by simpa using hl) (fun _ _ _ => rfl)).trans ?_
  rw [List.nil_append, Option.bind_some, List.foldl_map]
  exact forO_grow (fun R p => stepJ R (spanOf p)) SZ (fun R p => stepJ_len R _) _ _ (by rw [sortB_len, List.length_map]; simpa using hl) fun x _ t kc h => stepJ_run (x := spanOf x) h
theorem lr_step {Ω : Type} {t : List Sp3} {x : Int × Int} {k : List Sp3 → Option Ω} (hl : t.length + 1 ≤ SZ) (hb : ∀ l, t.getLast? = some l → l.1 = x.1 → l.2.2 ≤ x.2) :
    (if (decide ((0 : Int) < (List.length t : Int))) = true then ((atI t (-(1 : Int))).bind fun y462 =>
      if (decide (y462.1 = x.1)) = true then ((atI t (-(1 : Int))).bind fun y466 =>
      if (decide (y466.2.2 = (x.2 - (1 : Int)))) = true then (
        (atI t (-(1 : Int))).bind fun y474 =>
        (ixN (List.length t) (-(1 : Int))).bind fun n482 => k (List.set t n482 (x.1, y474.2.1, x.2)))
      else (
        if (decide ((List.length t : Int) = (0 : Int))) = true then (if true = true then ck (decide (List.length t < SZ)) (k (t ++ [(x.1, x.2, x.2)])) else k t) else ((atI t (-(1 : Int))).bind fun y486 =>
        if (!decide (y486.1 = x.1)) = true then (if true = true then ck (decide (List.length t < SZ)) (k (t ++ [(x.1, x.2, x.2)])) else k t) else ((atI t (-(1 : Int))).bind fun y490 =>
        if (!decide (y490.2.2 = x.2)) = true then ck (decide (List.length t < SZ)) (k (t ++ [(x.1, x.2, x.2)])) else k t)))) else (if false = true then (
        (atI t (-(1 : Int))).bind fun y474 =>
        (ixN (List.length t) (-(1 : Int))).bind fun n482 => k (List.set t n482 (x.1, y474.2.1, x.2)))
      else (
        if (decide ((List.length t : Int) = (0 : Int))) = true then (if true = true then ck (decide (List.length t < SZ)) (k (t ++ [(x.1, x.2, x.2)])) else k t) else ((atI t (-(1 : Int))).bind fun y486 =>
        if (!decide (y486.1 = x.1)) = true then (if true = true then ck (decide (List.length t < SZ)) (k (t ++ [(x.1, x.2, x.2)])) else k t) else ((atI t (-(1 : Int))).bind fun y490 =>
        if (!decide (y490.2.2 = x.2)) = true then ck (decide (List.length t < SZ)) (k (t ++ [(x.1, x.2, x.2)])) else k t))))) else (if false = true then (
        (atI t (-(1 : Int))).bind fun y474 =>
        (ixN (List.length t) (-(1 : Int))).bind fun n482 => k (List.set t n482 (x.1, y474.2.1, x.2)))
      else (
        if (decide ((List.length t : Int) = (0 : Int))) = true then (if true = true then ck (decide (List.length t < SZ)) (k (t ++ [(x.1, x.2, x.2)])) else k t) else ((atI t (-(1 : Int))).bind fun y486 =>
        if (!decide (y486.1 = x.1)) = true then (if true = true then ck (decide (List.length t < SZ)) (k (t ++ [(x.1, x.2, x.2)])) else k t) else ((atI t (-(1 : Int))).bind fun y490 =>
        if (!decide (y490.2.2 = x.2)) = true then ck (decide (List.length t < SZ)) (k (t ++ [(x.1, x.2, x.2)])) else k t))))) = k (stepJ t (spanOf x)) := by
  rw [decide_eq_true (show t.length < SZ by omega)]
  simp only [ck_true]
  unfold stepJ spanOf
  rcases List.eq_nil_or_concat t with e | ⟨R', l, e⟩
  · subst e; rfl
  · subst e
    rw [List.concat_eq_append] at hb ⊢
    have hb' := hb l (by simp)
    rw [show (R' ++ [l]).getLast? = some l by simp, show (R' ++ [l]).dropLast = R' by simp, if_pos (decide_eq_true (show (0 : Int) < ((R' ++ [l]).length : Int) by rw [List.length_append, List.length_singleton]; omega)), Z.atI_last, ixN_last]
    have nz : decide (((R' ++ [l]).length : Int) = (0 : Int)) = false := decide_eq_false (by rw [List.length_append, List.length_singleton]; omega)
    rw [nz]
    simp only [Option.bind_some, set_last, Bool.false_eq_true, if_false, if_true]
    by_cases c : l.1 = x.1
    · have b := hb' c
      rw [decide_eq_true c]
      simp only [if_true, Bool.not_true, Bool.false_eq_true, if_false]
      by_cases d : l.2.2 = x.2 - 1
      · rw [decide_eq_true d, if_pos rfl, if_pos ⟨c, by omega⟩]
        rw [show max l.2.2 x.2 = x.2 by omega]
      · rw [decide_eq_false d]
        simp only [Bool.false_eq_true, if_false]
        by_cases f : l.2.2 = x.2
        · rw [decide_eq_true f]
          simp only [Bool.not_true, Bool.false_eq_true, if_false]
          rw [if_pos ⟨c, by omega⟩, show max l.2.2 x.2 = l.2.2 by omega, ← c]
        · rw [decide_eq_false f]
          simp only [Bool.not_false, if_true]
          rw [if_neg (fun z => by omega)]
    · rw [decide_eq_false c]
      simp only [Bool.not_false, if_true, Bool.false_eq_true, if_false]
      rw [if_neg (fun z => c z.1)]
theorem lr_last {R : List Sp3} {p q : Int × Int} (h : p.1 < q.1 ∨ (p.1 = q.1 ∧ p.2 ≤ q.2)) (hb : ∀ l, R.getLast? = some l → l.1 = p.1 → l.2.2 ≤ p.2) : ∀ l, (stepJ R (spanOf p)).getLast? = some l → l.1 = q.1 → l.2.2 ≤ q.2 := by
  intro l hl e
  unfold stepJ spanOf at hl
  rcases List.eq_nil_or_concat R with z | ⟨R', u, z⟩
  · subst z; simp at hl; subst hl; dsimp only at e ⊢; omega
  · subst z
    rw [List.concat_eq_append] at hb hl
    have hb' := hb u (by simp)
    rw [show (R' ++ [u]).getLast? = some u by simp] at hl
    dsimp only at hl
    split at hl
    · rename_i c
      simp at hl; subst hl
      have := hb' c.1
      dsimp only at e ⊢; omega
    · simp at hl; subst hl
      dsimp only at e ⊢; omega
theorem lr_loop {Ω : Type} {b : Int × Int → List Sp3 → (List Sp3 → Option Ω) → Option Ω} {k : List Sp3 → Option Ω} (hb : ∀ x t kc, t.length + 1 ≤ SZ → (∀ l, t.getLast? = some l → l.1 = x.1 → l.2.2 ≤ x.2) → b x t kc = kc (stepJ t (spanOf x))) :
    ∀ (L : List (Int × Int)) (R : List Sp3), R.length + L.length ≤ SZ → L.Pairwise (fun s t => s.1 < t.1 ∨ (s.1 = t.1 ∧ s.2 ≤ t.2)) → (∀ p ∈ L, ∀ l, R.getLast? = some l → l.1 = p.1 → l.2.2 ≤ p.2) → forO L R b k = k (L.foldl (fun R p => stepJ R (spanOf p)) R)
  | [], R, _, _, _ => rfl
  | p :: L, R, hl, hp, hR => by
    rw [List.length_cons] at hl
    have hp' := List.pairwise_cons.1 hp
    refine (hb p R _ (by omega) (hR p (List.mem_cons_self ..))).trans ?_
    have := stepJ_len R (spanOf p)
    exact lr_loop hb L _ (by omega) hp'.2 fun q mq => lr_last (hp'.1 q mq) (hR p (List.mem_cons_self ..))
theorem lregion_ok {L : List (Int × Int)} (hl : L.length ≤ SZ) : ∃ R, m__law_region L = some R ∧ Can R ∧ (∀ x y, InS R x y ↔ (x, y) ∈ L) ∧ R.length ≤ L.length := by
  obtain ⟨a, b, c⟩ := cells_ok (L := L)
  refine ⟨_, ?_, a, b, c⟩
  unfold m__law_region
  dsimp only
  refine (compO_map (fun c : Int × Int => (c.2, c.1)) () L [] (by simpa using hl) (fun _ _ _ => rfl)).trans ?_
  rw [List.nil_append, Option.bind_some, List.foldl_map]
  exact lr_loop (fun x t kc h1 h2 => lr_step h1 h2) _ _ (by rw [sortB_len, List.length_map]; simpa using hl) (sort2_pw _) fun p _ l z => by simp at z
theorem len_sub : ∀ {α : Type} [DecidableEq α] {A L : List α}, A.Nodup → (∀ a ∈ A, a ∈ L) → A.length ≤ L.length
  | α, _, [], L, _, _ => Nat.zero_le _
  | α, _, a :: A, L, nd, h => by
    rw [List.nodup_cons] at nd
    have ha := h a (List.mem_cons_self ..)
    have := len_sub (A := A) (L := L.erase a) nd.2 fun b m => (List.mem_erase_of_ne (fun z => nd.1 (by rw [← z]; exact m))).2 (h b (List.mem_cons_of_mem _ m))
    rw [List.length_erase_of_mem ha] at this
    have hp := List.length_pos_of_mem ha
    rw [List.length_cons]; omega
theorem Can.count {R : List Sp3} {L : List (Int × Int)} (h : Can R) (hs : ∀ x y, InS R x y → (x, y) ∈ L) : R.length ≤ L.length := by
  have nd : (R.map fun s => (s.2.1, s.1)).Nodup := by
    rw [List.Nodup, List.pairwise_map]
    refine h.2.imp_of_mem fun {s t} ms mt q z => ?_
    rw [Prod.mk.injEq] at z
    have v := h.1 s ms
    omega
  have := len_sub nd fun p mp => by
    obtain ⟨s, ms, rfl⟩ := List.mem_map.1 mp
    exact hs s.2.1 s.1 ⟨s, ms, rfl, Int.le_refl _, h.1 s ms⟩
  simpa using this
theorem united_ok {A B : List Sp3} (ha : ∀ s ∈ A, s.2.1 ≤ s.2.2) (hb : ∀ s ∈ B, s.2.1 ≤ s.2.2) (hl : A.length + B.length ≤ SZ) : ∃ R, m_united A B = some R ∧ Can R ∧ ∀ x y, InS R x y ↔ InS A x y ∨ InS B x y := by
  obtain ⟨R, e, c, i, _⟩ := joint_ok (L := A ++ B) (fun s m => (List.mem_append.1 m).elim (ha s) (hb s)) (by simpa using hl)
  refine ⟨R, ?_, c, fun x y => by rw [i, InS.app]⟩
  unfold m_united
  dsimp only
  rw [decide_eq_true hl, ck_true, e]; rfl
def comF (s u : Sp3) : List Sp3 := if u.1 = s.1 ∧ u.2.1 ≤ s.2.2 ∧ s.2.1 ≤ u.2.2 then [(s.1, max s.2.1 u.2.1, min s.2.2 u.2.2)] else []
theorem common_ok {A B : List Sp3} (ha : ∀ s ∈ A, s.2.1 ≤ s.2.2) (hb : ∀ s ∈ B, s.2.1 ≤ s.2.2) (hl : A.length * B.length ≤ SZ) : ∃ R, m_common A B = some R ∧ Can R ∧ ∀ x y, InS R x y ↔ InS A x y ∧ InS B x y := by
  have mem : ∀ t : Sp3, t ∈ A.flatMap (fun s => B.flatMap fun u => comF s u) ↔ ∃ s ∈ A, ∃ u ∈ B, (u.1 = s.1 ∧ u.2.1 ≤ s.2.2 ∧ s.2.1 ≤ u.2.2) ∧ t = (s.1, max s.2.1 u.2.1, min s.2.2 u.2.2) := fun t => by
    simp only [List.mem_flatMap, comF]
    constructor
    · rintro ⟨s, ms, u, mu, h⟩
      split at h
      · rename_i c
        exact ⟨s, ms, u, mu, c, List.mem_singleton.1 h⟩
      · cases h
    · rintro ⟨s, ms, u, mu, c, rfl⟩
      exact ⟨s, ms, u, mu, by rw [if_pos c]; exact List.mem_singleton.2 rfl⟩
  have one : ∀ s u, (comF s u).length ≤ 1 := fun s u => by unfold comF; split <;> simp
  have inner : ∀ (s : Sp3) (t : List Sp3), (t.flatMap fun u => comF s u).length ≤ t.length := fun s t => by
    induction t with
    | nil => simp
    | cons u t ih => have := one s u; simp only [List.flatMap_cons, List.length_append, List.length_cons]; omega
  have outer : ∀ t : List Sp3, (t.flatMap fun s => B.flatMap fun u => comF s u).length ≤ t.length * B.length := fun t => by
    induction t with
    | nil => simp
    | cons s t ih => have := inner s B; simp only [List.flatMap_cons, List.length_append, List.length_cons, Nat.add_mul, Nat.one_mul]; omega
  obtain ⟨R, e, c, i, _⟩ := joint_ok (L := A.flatMap (fun s => B.flatMap fun u => comF s u)) (fun t m => by
    obtain ⟨s, ms, u, mu, q, rfl⟩ := (mem t).1 m
    have := ha s ms
    have := hb u mu
    dsimp only; omega) (Nat.le_trans (outer A) hl)
  refine ⟨R, ?_, c, fun x y => ?_⟩
  · unfold m_common
    dsimp only
    refine (forO_cat (fun s => B.flatMap fun u => comF s u) B.length SZ A [] (by simpa using hl) fun s ms => ⟨inner s B, fun t kc ht => ?_⟩).trans ?_
    · refine forO_cat (fun u => comF s u) 1 SZ B t (by omega) fun u mu => ⟨one s u, fun t kc ht => ?_⟩
      rw [decide_eq_true (show t.length < SZ by omega)]
      simp only [ck_true]
      unfold comF
      by_cases c1 : u.1 = s.1
      · rw [if_pos (decide_eq_true c1)]
        by_cases c2 : u.2.1 ≤ s.2.2
        · rw [if_pos (decide_eq_true c2)]
          by_cases c3 : s.2.1 ≤ u.2.2
          · rw [if_pos (decide_eq_true c3), if_pos ⟨c1, c2, c3⟩]
          · rw [if_neg (show ¬ (decide (s.2.1 ≤ u.2.2) = true) from fun z => c3 (of_decide_eq_true z)), if_neg (fun z => c3 z.2.2), List.append_nil]
        · rw [if_neg (show ¬ (decide (u.2.1 ≤ s.2.2) = true) from fun z => c2 (of_decide_eq_true z)), if_neg (show ¬ (false = true) by decide), if_neg (fun z => c2 z.2.1), List.append_nil]
      · rw [if_neg (show ¬ (decide (u.1 = s.1) = true) from fun z => c1 (of_decide_eq_true z)), if_neg (show ¬ (false = true) by decide), if_neg (fun z => c1 z.1), List.append_nil]
    · rw [List.nil_append, e]; rfl
  · rw [i]
    constructor
    · rintro ⟨t, m, q⟩
      obtain ⟨s, ms, u, mu, w, rfl⟩ := (mem t).1 m
      dsimp only at q
      exact ⟨⟨s, ms, by omega, by omega, by omega⟩, ⟨u, mu, by omega, by omega, by omega⟩⟩
    · rintro ⟨⟨s, ms, q⟩, ⟨u, mu, w⟩⟩
      exact ⟨_, (mem _).2 ⟨s, ms, u, mu, ⟨by omega, by omega, by omega⟩, rfl⟩, by dsimp only; omega, by dsimp only; omega, by dsimp only; omega⟩
theorem swept_ok {A : List Sp3} {n : Int} (ha : ∀ s ∈ A, s.2.1 ≤ s.2.2) (h0 : 0 < n) (h1 : n ≤ 4) (hl : A.length ≤ 1000) : ∃ R, m_swept A n = some R ∧ Can R ∧ ∀ x y, InS R x y ↔ ∃ i j, 0 ≤ i ∧ i < n ∧ 0 ≤ j ∧ j < n ∧ InS A (x - i) (y - j) := by
  have mem : ∀ t : Sp3, t ∈ (rangeL 0 n).flatMap (fun r => A.map fun s => (s.1 + r, s.2.1, s.2.2 + n - 1)) ↔ ∃ r, (0 ≤ r ∧ r < n) ∧ ∃ s ∈ A, t = (s.1 + r, s.2.1, s.2.2 + n - 1) := fun t => by
    simp only [List.mem_flatMap, List.mem_map, mem_range2]
    exact ⟨fun ⟨r, hr, s, ms, e⟩ => ⟨r, hr, s, ms, e.symm⟩, fun ⟨r, hr, s, ms, e⟩ => ⟨r, hr, s, ms, e.symm⟩⟩
  have outer : ∀ t : List Int, (t.flatMap fun r => A.map fun s => (s.1 + r, s.2.1, s.2.2 + n - 1)).length ≤ t.length * A.length := fun t => by
    induction t with
    | nil => simp
    | cons s t ih => simp only [List.flatMap_cons, List.length_append, List.length_cons, List.length_map, Nat.add_mul, Nat.one_mul]; omega
  have small : (rangeL 0 n).length * A.length ≤ 4000 := by
    have : (rangeL 0 n).length ≤ 4 := by rw [rangeL_len]; omega
    exact Nat.mul_le_mul this hl
  have hSZ : (4000 : Nat) ≤ SZ := by decide
  obtain ⟨R, e, c, i, _⟩ := joint_ok (L := (rangeL 0 n).flatMap (fun r => A.map fun s => (s.1 + r, s.2.1, s.2.2 + n - 1))) (fun t m => by
    obtain ⟨r, hr, s, ms, rfl⟩ := (mem t).1 m
    have := ha s ms
    dsimp only; omega) (Nat.le_trans (outer _) (by omega))
  refine ⟨R, ?_, c, fun x y => ?_⟩
  · unfold m_swept
    dsimp only
    rw [rgOk_small (by omega) (by omega) (by omega) (by omega), ck_true]
    refine (forO_cat (fun r => A.map fun s => (s.1 + r, s.2.1, s.2.2 + n - 1)) A.length SZ _ [] (by simp only [List.length_nil]; omega) fun r mr => ⟨by simp, fun t kc ht => ?_⟩).trans ?_
    · refine (compO_map (fun s : Sp3 => (s.1 + r, s.2.1, s.2.2 + n - 1)) () A [] (by simp only [List.length_nil]; omega) (fun _ _ _ => rfl)).trans ?_
      rw [List.nil_append, decide_eq_true (by simpa using ht), ck_true]
    · rw [List.nil_append, e]; rfl
  · rw [i]
    constructor
    · rintro ⟨t, m, q⟩
      obtain ⟨r, hr, s, ms, rfl⟩ := (mem t).1 m
      dsimp only at q
      by_cases z : x ≤ s.2.2
      · exact ⟨0, r, by omega, by omega, hr.1, hr.2, s, ms, by omega, by omega, by omega⟩
      · have := ha s ms
        exact ⟨x - s.2.2, r, by omega, by omega, hr.1, hr.2, s, ms, by omega, by omega, by omega⟩
    · rintro ⟨i', j, a, b, c', d, s, ms, q⟩
      exact ⟨_, (mem _).2 ⟨j, ⟨c', d⟩, s, ms, rfl⟩, by dsimp only; omega, by dsimp only; omega, by dsimp only; omega⟩
/-- cells side by side lie in one span -/
theorem Can.run {R : List Sp3} (h : Can R) {x y : Int} : ∀ n : Nat, (∀ i : Int, 0 ≤ i → i ≤ (n : Int) → InS R (x + i) y) → ∃ s ∈ R, s.1 = y ∧ s.2.1 ≤ x ∧ x + n ≤ s.2.2
  | 0, hi => by
    obtain ⟨s, m, a, b, c⟩ := hi 0 (Int.le_refl _) (Int.le_refl _)
    exact ⟨s, m, a, by omega, by omega⟩
  | n + 1, hi => by
    obtain ⟨s, ms, a, b, c⟩ := Can.run h n fun i h0 h1 => hi i h0 (by omega)
    obtain ⟨u, mu, d, e, f⟩ := hi ((n + 1 : Nat) : Int) (by omega) (Int.le_refl _)
    by_cases z : x + ((n + 1 : Nat) : Int) ≤ s.2.2
    · exact ⟨s, ms, a, b, z⟩
    · have hne : s ≠ u := fun q => by subst q; omega
      have pw : (s.1 < u.1 ∨ (s.1 = u.1 ∧ s.2.2 + 1 < u.2.1)) ∨ (u.1 < s.1 ∨ (u.1 = s.1 ∧ u.2.2 + 1 < s.2.1)) := by
        obtain ⟨i1, hi1, e1⟩ := List.mem_iff_getElem.1 ms
        obtain ⟨i2, hi2, e2⟩ := List.mem_iff_getElem.1 mu
        rcases Nat.lt_trichotomy i1 i2 with q | q | q
        · have := List.pairwise_iff_getElem.1 h.2 i1 i2 hi1 hi2 q
          rw [e1, e2] at this; exact .inl this
        · subst q; exact absurd (e1.symm.trans e2) hne
        · have := List.pairwise_iff_getElem.1 h.2 i2 i1 hi2 hi1 q
          rw [e1, e2] at this; exact .inr this
      have := h.1 u mu
      have := h.1 s ms
      omega
/-- cells from which a square lies within -/
def Fits (R : List Sp3) (n x y : Int) : Prop := ∀ i j, 0 ≤ i → i < n → 0 ≤ j → j < n → InS R (x + i) (y + j)
theorem row_in {A : List Sp3} {n x y r : Int} (hA : Can A) (h0 : 0 < n) : InS (A.filterMap fun s => if n ≤ s.2.2 - s.2.1 + 1 then some ((s.1 - r, s.2.1, s.2.2 - n + 1) : Sp3) else none) x y ↔ ∀ i, 0 ≤ i → i < n → InS A (x + i) (y + r) := by
  constructor
  · rintro ⟨t, m, q⟩ i h1 h2
    obtain ⟨s, ms, e⟩ := List.mem_filterMap.1 m
    split at e
    · cases e
      dsimp only at q
      exact ⟨s, ms, by omega, by omega, by omega⟩
    · cases e
  · intro h
    obtain ⟨s, ms, a, b, c⟩ := Can.run hA (n - 1).toNat fun i h1 h2 => h i h1 (by omega)
    have c' : n ≤ s.2.2 - s.2.1 + 1 := by omega
    exact ⟨(s.1 - r, s.2.1, s.2.2 - n + 1), List.mem_filterMap.2 ⟨s, ms, if_pos c'⟩, by dsimp only; omega, by dsimp only; omega, by dsimp only; omega⟩
theorem shrunk_ok {A : List Sp3} {n : Int} {L : List (Int × Int)} (hA : Can A) (hL : ∀ x y, InS A x y → (x, y) ∈ L) (h0 : 0 < n) (h1 : n ≤ 4) (hl : L.length ≤ 1000) : ∃ R, m_shrunk A n = some R ∧ Can R ∧ ∀ x y, InS R x y ↔ Fits A n x y := by
  have hAl := Can.count hA hL
  have hSZ : (1000 * 1000 : Nat) ≤ SZ := by decide
  have vld : ∀ r : Int, ∀ s ∈ (A.filterMap fun s => if n ≤ s.2.2 - s.2.1 + 1 then some ((s.1 - r, s.2.1, s.2.2 - n + 1) : Sp3) else none), s.2.1 ≤ s.2.2 := fun r t m => by
    obtain ⟨s, ms, e⟩ := List.mem_filterMap.1 m
    split at e
    · cases e; dsimp only; omega
    · cases e
  have len : ∀ r : Int, (A.filterMap fun s => if n ≤ s.2.2 - s.2.1 + 1 then some ((s.1 - r, s.2.1, s.2.2 - n + 1) : Sp3) else none).length ≤ 1000 := fun r => Nat.le_trans (List.length_filterMap_le _ _) (by omega)
  have e0 : (A.filterMap fun s => if n ≤ s.2.2 - s.2.1 + 1 then some ((s.1, s.2.1, s.2.2 - n + 1) : Sp3) else none) = A.filterMap fun s => if n ≤ s.2.2 - s.2.1 + 1 then some ((s.1 - 0, s.2.1, s.2.2 - n + 1) : Sp3) else none := by
    simp
  unfold m_shrunk
  have goal : ∀ ω : Option (List Sp3), (∃ R, ω = some R ∧ Can R ∧ ∀ x y, InS R x y ↔ Fits A n x y) → ω = ω := fun _ _ => rfl
  suffices h : ∃ F : List Sp3, (∀ s ∈ F, s.2.1 ≤ s.2.2) ∧ F.length ≤ 1000 ∧ (∀ x y, InS F x y ↔ Fits A n x y) ∧ ∀ k : List Sp3 → Option (List Sp3), forO (rangeL 1 n) (A.filterMap fun s => if n ≤ s.2.2 - s.2.1 + 1 then some ((s.1, s.2.1, s.2.2 - n + 1) : Sp3) else none) (fun x254 (t253 : (List (Int × Int × Int))) kc255 => (
      compO A () (fun x259 (t258 : Unit) kc275 => (
        if (decide (n ≤ ((x259.2.2 - x259.2.1) + (1 : Int)))) = true then (kc275 (some ((x259.1 - x254), x259.2.1, ((x259.2.2 - n) + (1 : Int)))) ()) else kc275 none ())) [] fun (ys273 : List (Int × Int × Int)) (t274 : Unit) => (
        (m_common t253 ys273).bind fun r280 =>
        kc255 r280))) k = k F by
    obtain ⟨F, hv, hlen, hF, hrun⟩ := h
    obtain ⟨R, e, c, i, _⟩ := joint_ok hv (by omega)
    refine ⟨R, ?_, c, fun x y => (i x y).trans (hF x y)⟩
    refine (compO_filterMap (fun s : Sp3 => if n ≤ s.2.2 - s.2.1 + 1 then some ((s.1, s.2.1, s.2.2 - n + 1) : Sp3) else none) () A [] (by simp only [List.length_nil]; omega) (fun s _ kc => by
      by_cases z : n ≤ s.2.2 - s.2.1 + 1
      · rw [if_pos (decide_eq_true z), if_pos z]
      · rw [if_neg (show ¬ (decide (n ≤ s.2.2 - s.2.1 + 1) = true) from fun w => z (of_decide_eq_true w)), if_neg z])).trans ?_
    dsimp only
    rw [List.nil_append, rgOk_small (by omega) (by omega) (by omega) (by omega), ck_true]
    refine (hrun _).trans ?_
    rw [e]; rfl
  -- the rows, one by one
  have step : ∀ (m : Nat) (lo : Int) (F : List Sp3), 1 ≤ lo → lo + m = n → (∀ s ∈ F, s.2.1 ≤ s.2.2) → F.length ≤ 1000 → (∀ x y, InS F x y ↔ ∀ i j, 0 ≤ i → i < n → 0 ≤ j → j < lo → InS A (x + i) (y + j)) →
      ∃ G : List Sp3, (∀ s ∈ G, s.2.1 ≤ s.2.2) ∧ G.length ≤ 1000 ∧ (∀ x y, InS G x y ↔ Fits A n x y) ∧ ∀ k : List Sp3 → Option (List Sp3), forO (rangeL lo n) F (fun x254 (t253 : (List (Int × Int × Int))) kc255 => (
      compO A () (fun x259 (t258 : Unit) kc275 => (
        if (decide (n ≤ ((x259.2.2 - x259.2.1) + (1 : Int)))) = true then (kc275 (some ((x259.1 - x254), x259.2.1, ((x259.2.2 - n) + (1 : Int)))) ()) else kc275 none ())) [] fun (ys273 : List (Int × Int × Int)) (t274 : Unit) => (
        (m_common t253 ys273).bind fun r280 =>
        kc255 r280))) k = k G := by
    intro m
    induction m with
    | zero =>
      intro lo F hlo hm hv hlen hF
      have el : lo = n := by omega
      subst el
      refine ⟨F, hv, hlen, hF, fun k => ?_⟩
      rw [show rangeL lo lo = [] by unfold rangeL; simp]; rfl
    | succ m ih =>
      intro lo F hlo hm hv hlen hF
      obtain ⟨R, e, c, i⟩ := common_ok hv (vld lo) (Nat.le_trans (Nat.mul_le_mul hlen (len lo)) hSZ)
      have iR : ∀ x y, InS R x y ↔ ∀ i j, 0 ≤ i → i < n → 0 ≤ j → j < lo + 1 → InS A (x + i) (y + j) := fun x y => by
        rw [i, hF, row_in hA h0]
        constructor
        · rintro ⟨p, q⟩ a b a0 a1 b0 b1
          by_cases z : b < lo
          · exact p a b a0 a1 b0 z
          · have := q a a0 a1
            rw [show b = lo by omega]; exact this
        · intro p
          exact ⟨fun a b a0 a1 b0 b1 => p a b a0 a1 b0 (by omega), fun a a0 a1 => p a lo a0 a1 (by omega) (by omega)⟩
      have hR1 : R.length ≤ 1000 := Nat.le_trans (Can.count c fun x y h => hL x y (by
        have := (iR x y).1 h 0 0 (Int.le_refl _) h0 (Int.le_refl _) (by omega)
        simpa using this)) hl
      obtain ⟨G, g1, g2, g3, g4⟩ := ih (lo + 1) R (by omega) (by omega) c.1 hR1 iR
      refine ⟨G, g1, g2, g3, fun k => ?_⟩
      have er : rangeL lo n = lo :: rangeL (lo + 1) n := by
        unfold rangeL
        obtain ⟨w, hw⟩ : ∃ w, (n - lo).toNat = w + 1 := ⟨(n - lo).toNat - 1, by omega⟩
        rw [hw, List.range_succ_eq_map, List.map_cons, List.map_map, show (n - (lo + 1)).toNat = w by omega]
        refine List.cons_eq_cons.2 ⟨by simp, List.map_congr_left fun a _ => ?_⟩
        simp only [Function.comp]; omega
      rw [er]
      refine (compO_filterMap (fun s : Sp3 => if n ≤ s.2.2 - s.2.1 + 1 then some ((s.1 - lo, s.2.1, s.2.2 - n + 1) : Sp3) else none) () A [] (by simp only [List.length_nil]; omega) (fun s _ kc => by
        by_cases z : n ≤ s.2.2 - s.2.1 + 1
        · rw [if_pos (decide_eq_true z), if_pos z]
        · rw [if_neg (show ¬ (decide (n ≤ s.2.2 - s.2.1 + 1) = true) from fun w => z (of_decide_eq_true w)), if_neg z])).trans ?_
      rw [List.nil_append]
      dsimp only
      rw [e]
      exact g4 k
  refine step (n - 1).toNat 1 _ (by omega) (by omega) (fun s m => by rw [e0] at m; exact vld 0 s m) (by rw [e0]; exact len 0) fun x y => ?_
  rw [e0, row_in hA h0]
  constructor
  · intro p a b a0 a1 b0 b1
    have := p a a0 a1
    rw [show b = 0 by omega]; exact this
  · intro p a a0 a1
    exact p a 0 a0 a1 (by omega) (by omega)
theorem opened_ok {A : List Sp3} {n : Int} {L : List (Int × Int)} (hA : Can A) (hL : ∀ x y, InS A x y → (x, y) ∈ L) (h0 : 0 < n) (h1 : n ≤ 4) (hl : L.length ≤ 1000) : ∃ R, m_opened A n = some R ∧ Can R ∧ ∀ x y, InS R x y ↔ ∃ i j, 0 ≤ i ∧ i < n ∧ 0 ≤ j ∧ j < n ∧ Fits A n (x - i) (y - j) := by
  obtain ⟨S, e, c, i⟩ := shrunk_ok hA hL h0 h1 hl
  have hS : S.length ≤ 1000 := Nat.le_trans (Can.count c fun x y h => hL x y (by
    have := (i x y).1 h 0 0 (Int.le_refl _) h0 (Int.le_refl _) h0
    simpa using this)) hl
  obtain ⟨R, e2, c2, i2⟩ := swept_ok c.1 h0 h1 hS
  refine ⟨R, ?_, c2, fun x y => ?_⟩
  · unfold m_opened
    rw [e, Option.bind_some, e2]; rfl
  · rw [i2]
    exact ⟨fun ⟨a, b, h⟩ => ⟨a, b, h.1, h.2.1, h.2.2.1, h.2.2.2.1, (i _ _).1 h.2.2.2.2⟩, fun ⟨a, b, h⟩ => ⟨a, b, h.1, h.2.1, h.2.2.1, h.2.2.2.1, (i _ _).2 h.2.2.2.2⟩⟩
theorem forO_meas {α S Ω : Type} (ms : S → Nat) (g : S → α → S) (N : Nat) (hg : ∀ s x, ms (g s x) ≤ ms s + 1) {b : α → S → (S → Option Ω) → Option Ω} {k : S → Option Ω} : ∀ (xs : List α) (s : S), ms s + xs.length ≤ N →
    (∀ x ∈ xs, ∀ s kc, ms s + 1 ≤ N → b x s kc = kc (g s x)) → forO xs s b k = k (xs.foldl g s)
  | [], s, _, _ => rfl
  | x :: xs, s, hl, h => by
    rw [List.length_cons] at hl
    refine (h x (List.mem_cons_self ..) s _ (by omega)).trans ?_
    have := hg s x
    exact forO_meas ms g N hg xs (g s x) (by omega) fun y m => h y (List.mem_cons_of_mem _ m)
def stepL (s : Sp3) (st : List Sp3 × Int) (u : Sp3) : List Sp3 × Int :=
  if u.1 = s.1 ∧ u.2.1 ≤ s.2.2 ∧ st.2 ≤ u.2.2 then ((if st.2 < u.2.1 then st.1 ++ [(s.1, st.2, u.2.1 - 1)] else st.1), max st.2 (u.2.2 + 1)) else st
theorem stepL_app (s : Sp3) (T : List Sp3) : ∀ (us : List Sp3) (N : List Sp3) (st : Int), us.foldl (stepL s) (T ++ N, st) = (T ++ (us.foldl (stepL s) (N, st)).1, (us.foldl (stepL s) (N, st)).2)
  | [], N, st => rfl
  | u :: us, N, st => by
    have e : stepL s (T ++ N, st) u = (T ++ (stepL s (N, st) u).1, (stepL s (N, st) u).2) := by
      unfold stepL
      dsimp only
      split
      · split <;> simp
      · rfl
    rw [List.foldl_cons, List.foldl_cons, e]
    exact stepL_app s T us _ _
structure InvL (s : Sp3) (pre N : List Sp3) (st : Int) : Prop where
  v : ∀ t ∈ N, t.1 = s.1 ∧ t.2.1 ≤ t.2.2
  lo : s.2.1 ≤ st
  is : ∀ x, InS N x s.1 ↔ (s.2.1 ≤ x ∧ x < st ∧ x ≤ s.2.2 ∧ ¬ InS pre x s.1)
  up : ∀ x, x ≤ s.2.2 → InS pre x s.1 → x < st
  at_ : st = s.2.1 ∨ ∃ u ∈ pre, u.1 = s.1 ∧ st = u.2.2 + 1
theorem invL_step {s u : Sp3} {pre us N : List Sp3} {st : Int} (hc : Can (pre ++ u :: us)) (h : InvL s pre N st) : InvL s (pre ++ [u]) (stepL s (N, st) u).1 (stepL s (N, st) u).2 := by
  have vu := hc.1 u (by simp)
  have bef : ∀ w ∈ pre, w.1 < u.1 ∨ (w.1 = u.1 ∧ w.2.2 + 1 < u.2.1) := fun w mw => (List.pairwise_append.1 hc.2).2.2 w mw u (by simp)
  have pin : ∀ x, InS (pre ++ [u]) x s.1 ↔ InS pre x s.1 ∨ (u.1 = s.1 ∧ u.2.1 ≤ x ∧ x ≤ u.2.2) := fun x => by
    rw [InS.app, InS.cons]
    exact ⟨fun z => z.imp id fun w => w.elim id fun q => absurd q InS.nil, fun z => z.imp id .inl⟩
  have low := h.lo
  have at1 : u.1 = s.1 → st = s.2.1 ∨ st < u.2.1 := fun e => by
    rcases h.at_ with q | ⟨w, mw, e1, e2⟩
    · exact .inl q
    · have := bef w mw
      exact .inr (by omega)
  unfold stepL
  dsimp only
  by_cases c : u.1 = s.1 ∧ u.2.1 ≤ s.2.2 ∧ st ≤ u.2.2
  · rw [if_pos c]
    have a := at1 c.1
    have em : max st (u.2.2 + 1) = u.2.2 + 1 := by omega
    dsimp only
    rw [em]
    refine ⟨fun t m => ?_, by omega, fun x => ?_, fun x hx hp => ?_, .inr ⟨u, by simp, c.1, rfl⟩⟩
    · split at m
      · rcases List.mem_append.1 m with m | m
        · exact h.v t m
        · rw [List.mem_singleton] at m; subst m; exact ⟨rfl, by dsimp only; omega⟩
      · exact h.v t m
    · rw [pin]
      have hx := h.is x
      have hu := h.up x
      have e2 : InS (if st < u.2.1 then N ++ [(s.1, st, u.2.1 - 1)] else N) x s.1 ↔ InS N x s.1 ∨ (st < u.2.1 ∧ st ≤ x ∧ x ≤ u.2.1 - 1) := by
        split
        · rename_i z
          rw [InS.app, InS.cons]
          exact ⟨fun q => q.imp id fun w => w.elim (fun r => ⟨z, r.2⟩) fun r => absurd r InS.nil, fun q => q.imp id fun w => .inl ⟨rfl, w.2⟩⟩
        · rename_i z
          exact ⟨.inl, fun q => q.elim id fun w => absurd w.1 z⟩
      rw [e2, hx]
      by_cases p : InS pre x s.1
      · have := fun q => hu q p
        constructor
        · rintro (⟨_, _, _, w⟩ | w)
          · exact absurd p w
          · omega
        · rintro ⟨_, _, _, w⟩
          exact absurd (.inl p) w
      · constructor
        · rintro (⟨w1, w2, w3, _⟩ | w)
          · exact ⟨w1, by omega, w3, fun z => z.elim p fun q => by omega⟩
          · exact ⟨by omega, by omega, by omega, fun z => z.elim p fun q => by omega⟩
        · rintro ⟨w1, w2, w3, w4⟩
          have w5 : ¬ (u.2.1 ≤ x ∧ x ≤ u.2.2) := fun q => w4 (.inr ⟨c.1, q⟩)
          by_cases z : x < st
          · exact .inl ⟨w1, z, w3, p⟩
          · exact .inr (by omega)
    · rcases (pin x).1 hp with q | q
      · have := h.up x hx q; omega
      · omega
  · rw [if_neg c]
    dsimp only
    refine ⟨h.v, low, fun x => ?_, fun x hx hp => ?_, h.at_.imp id fun ⟨w, mw, e⟩ => ⟨w, by simp [mw], e⟩⟩
    · rw [h.is x, pin]
      constructor
      · rintro ⟨w1, w2, w3, w4⟩
        refine ⟨w1, w2, w3, fun z => z.elim w4 fun q => ?_⟩
        have := at1 q.1
        omega
      · rintro ⟨w1, w2, w3, w4⟩
        exact ⟨w1, w2, w3, fun z => w4 (.inl z)⟩
    · rcases (pin x).1 hp with q | q
      · exact h.up x hx q
      · omega
theorem invL_all {s : Sp3} : ∀ (us pre N : List Sp3) (st : Int), Can (pre ++ us) → InvL s pre N st → InvL s (pre ++ us) (us.foldl (stepL s) (N, st)).1 (us.foldl (stepL s) (N, st)).2
  | [], pre, N, st, _, h => by rw [List.append_nil]; exact h
  | u :: us, pre, N, st, hc, h => by
    have := invL_all us (pre ++ [u]) (stepL s (N, st) u).1 (stepL s (N, st) u).2 (by rw [List.append_assoc]; exact hc) (invL_step hc h)
    rw [List.append_assoc] at this
    exact this
def lessN (B : List Sp3) (s : Sp3) : List Sp3 := (B.foldl (stepL s) ([], s.2.1)).1 ++ (if (B.foldl (stepL s) ([], s.2.1)).2 ≤ s.2.2 then [(s.1, (B.foldl (stepL s) ([], s.2.1)).2, s.2.2)] else [])
theorem stepL_len (s : Sp3) (st : List Sp3 × Int) (u : Sp3) : (stepL s st u).1.length ≤ st.1.length + 1 := by
  unfold stepL
  split
  · dsimp only; split <;> simp
  · omega
theorem foldL_len (s : Sp3) : ∀ (us : List Sp3) (st : List Sp3 × Int), (us.foldl (stepL s) st).1.length ≤ st.1.length + us.length
  | [], st => by simp
  | u :: us, st => by
    have h1 := stepL_len s st u
    have h2 := foldL_len s us (stepL s st u)
    rw [List.foldl_cons, List.length_cons]; omega
theorem lessN_ok {B : List Sp3} {s : Sp3} (hB : Can B) (x y : Int) : InS (lessN B s) x y ↔ (s.1 = y ∧ s.2.1 ≤ x ∧ x ≤ s.2.2) ∧ ¬ InS B x y := by
  have h := invL_all (s := s) B [] [] s.2.1 hB ⟨fun _ m => (nomatch m), Int.le_refl _, fun x => ⟨fun q => absurd q InS.nil, fun q => by omega⟩, fun x _ q => absurd q InS.nil, .inl rfl⟩
  rw [List.nil_append] at h
  unfold lessN
  have e : InS (if (B.foldl (stepL s) ([], s.2.1)).2 ≤ s.2.2 then [(s.1, (B.foldl (stepL s) ([], s.2.1)).2, s.2.2)] else []) x y ↔ s.1 = y ∧ (B.foldl (stepL s) ([], s.2.1)).2 ≤ x ∧ x ≤ s.2.2 := by
    split
    · rw [InS.cons]
      exact ⟨fun z => z.elim id fun q => absurd q InS.nil, .inl⟩
    · exact ⟨fun q => absurd q InS.nil, fun q => by omega⟩
  rw [InS.app, e]
  have low := h.lo
  constructor
  · rintro (⟨t, m, q⟩ | q)
    · have ht := h.v t m
      have hy : s.1 = y := by omega
      subst hy
      have := (h.is x).1 ⟨t, m, q⟩
      exact ⟨⟨rfl, this.1, this.2.2.1⟩, this.2.2.2⟩
    · obtain ⟨rfl, a, b⟩ := q
      refine ⟨⟨rfl, by omega, b⟩, fun z => ?_⟩
      have := h.up x b z; omega
  · rintro ⟨⟨rfl, a, b⟩, c⟩
    by_cases z : x < (B.foldl (stepL s) ([], s.2.1)).2
    · exact .inl ((h.is x).2 ⟨a, z, b, c⟩)
    · exact .inr ⟨rfl, by omega, b⟩
theorem lessN_v {B : List Sp3} {s : Sp3} (hB : Can B) : ∀ t ∈ lessN B s, t.2.1 ≤ t.2.2 := by
  have h := invL_all (s := s) B [] [] s.2.1 hB ⟨fun _ m => (nomatch m), Int.le_refl _, fun x => ⟨fun q => absurd q InS.nil, fun q => by omega⟩, fun x _ q => absurd q InS.nil, .inl rfl⟩
  intro t m
  unfold lessN at m
  rcases List.mem_append.1 m with m | m
  · exact (h.v t m).2
  · split at m
    · rename_i z
      rw [List.mem_singleton] at m; subst m; exact z
    · cases m
theorem less_ok {A B : List Sp3} (hB : Can B) (hl : A.length * (B.length + 1) ≤ SZ) : ∃ R, m_less A B = some R ∧ Can R ∧ ∀ x y, InS R x y ↔ InS A x y ∧ ¬ InS B x y := by
  have one : ∀ s, (lessN B s).length ≤ B.length + 1 := fun s => by
    have := foldL_len s B ([], s.2.1)
    unfold lessN
    rw [List.length_append]
    split
    · rw [List.length_singleton]; simp only [List.length_nil] at this; omega
    · simp only [List.length_nil] at this ⊢; omega
  have outer : ∀ t : List Sp3, (t.flatMap (lessN B)).length ≤ t.length * (B.length + 1) := fun t => by
    induction t with
    | nil => simp
    | cons s t ih => have := one s; rw [List.flatMap_cons, List.length_append, List.length_cons, Nat.add_mul, Nat.one_mul]; omega
  obtain ⟨R, e, c, i, _⟩ := joint_ok (L := A.flatMap (lessN B)) (fun t m => by
    obtain ⟨s, _, m⟩ := List.mem_flatMap.1 m
    exact lessN_v hB t m) (Nat.le_trans (outer A) hl)
  refine ⟨R, ?_, c, fun x y => ?_⟩
  · unfold m_less
    dsimp only
    refine (forO_cat (lessN B) (B.length + 1) SZ A [] (by simpa using hl) fun s ms => ⟨one s, fun t kc ht => ?_⟩).trans ?_
    · refine (forO_meas (fun st : List Sp3 × Int => st.1.length) (stepL s) SZ (stepL_len s) B (t, s.2.1) (by dsimp only; omega) fun u mu st kc hst => ?_).trans ?_
      · rw [decide_eq_true (show st.1.length < SZ by omega)]
        simp only [ck_true]
        unfold stepL
        by_cases c1 : u.1 = s.1
        · rw [if_pos (decide_eq_true c1)]
          by_cases c2 : u.2.1 ≤ s.2.2
          · rw [if_pos (decide_eq_true c2)]
            by_cases c3 : st.2 ≤ u.2.2
            · rw [if_pos (decide_eq_true c3), if_pos (show u.1 = s.1 ∧ u.2.1 ≤ s.2.2 ∧ st.2 ≤ u.2.2 from ⟨c1, c2, c3⟩)]
              by_cases c4 : st.2 < u.2.1
              · rw [if_pos (show decide (st.2 < u.2.1) = true from decide_eq_true c4), if_pos c4]
              · rw [if_neg (show ¬ (decide (st.2 < u.2.1) = true) from fun z => c4 (of_decide_eq_true z)), if_neg c4]
            · rw [if_neg (show ¬ (decide (st.2 ≤ u.2.2) = true) from fun z => c3 (of_decide_eq_true z)), if_neg (fun z => c3 z.2.2)]
          · rw [if_neg (show ¬ (decide (u.2.1 ≤ s.2.2) = true) from fun z => c2 (of_decide_eq_true z)), if_neg (show ¬ (false = true) by decide), if_neg (fun z => c2 z.2.1)]
        · rw [if_neg (show ¬ (decide (u.1 = s.1) = true) from fun z => c1 (of_decide_eq_true z)), if_neg (show ¬ (false = true) by decide), if_neg (fun z => c1 z.1)]
      · have ea := stepL_app s t B [] s.2.1
        rw [List.append_nil] at ea
        rw [ea]
        dsimp only
        have fl := foldL_len s B ([], s.2.1)
        simp only [List.length_nil] at fl
        rw [decide_eq_true (show (t ++ (B.foldl (stepL s) ([], s.2.1)).1).length < SZ by rw [List.length_append]; omega), ck_true]
        unfold lessN
        by_cases z : (B.foldl (stepL s) ([], s.2.1)).2 ≤ s.2.2
        · rw [if_pos (decide_eq_true z), if_pos z, List.append_assoc]
        · rw [if_neg (show ¬ (decide ((B.foldl (stepL s) ([], s.2.1)).2 ≤ s.2.2) = true) from fun w => z (of_decide_eq_true w)), if_neg z, List.append_nil]
    · rw [List.nil_append, e]; rfl
  · rw [i]
    constructor
    · rintro ⟨t, m, q⟩
      obtain ⟨s, ms, m⟩ := List.mem_flatMap.1 m
      have := (lessN_ok hB x y).1 ⟨t, m, q⟩
      exact ⟨⟨s, ms, this.1⟩, this.2⟩
    · rintro ⟨⟨s, ms, q⟩, nb⟩
      obtain ⟨t, m, w⟩ := (lessN_ok (s := s) hB x y).2 ⟨q, nb⟩
      exact ⟨t, List.mem_flatMap.2 ⟨s, ms, m⟩, w⟩
def Op (A : List Sp3) (n x y : Int) : Prop := ∃ i j, 0 ≤ i ∧ i < n ∧ 0 ≤ j ∧ j < n ∧ Fits A n (x - i) (y - j)
theorem Op.sub {A : List Sp3} {n x y : Int} : Op A n x y → InS A x y := by
  rintro ⟨i, j, a, b, c, d, h⟩
  have := h i j a b c d
  simpa using this
theorem rest_ok {A : List Sp3} {L : List (Int × Int)} {sides : List Int} (hA : Can A) (hL : ∀ x y, InS A x y → (x, y) ∈ L) (hs : ∀ n ∈ sides, 0 < n ∧ n ≤ 4) (hl : L.length ≤ 1000) : ∃ R, m_rest A sides = some R ∧ Can R ∧ ∀ x y, InS R x y ↔ InS A x y ∧ ¬ ∃ n ∈ sides, Op A n x y := by
  have step : ∀ (ss : List Int) (F : List Sp3), (∀ n ∈ ss, 0 < n ∧ n ≤ 4) → Can F → (∀ x y, InS F x y → (x, y) ∈ L) → ∃ G : List Sp3, Can G ∧ (∀ x y, InS G x y → (x, y) ∈ L) ∧ (∀ x y, InS G x y ↔ InS F x y ∨ ∃ n ∈ ss, Op A n x y) ∧
      ∀ k : List Sp3 → Option (List Sp3), forO ss F (fun x297 (t296 : (List (Int × Int × Int))) kc298 => (
    (m_opened A x297).bind fun r303 =>
    (m_united t296 r303).bind fun r305 =>
    kc298 r305)) k = k G := by
    intro ss
    induction ss with
    | nil => intro F _ c h; exact ⟨F, c, h, fun x y => ⟨.inl, fun z => z.elim id fun ⟨_, m, _⟩ => nomatch m⟩, fun k => rfl⟩
    | cons n ss ih =>
      intro F hn c h
      have h1 := hn n (List.mem_cons_self ..)
      obtain ⟨O, e1, c1, i1⟩ := opened_ok hA hL h1.1 h1.2 hl
      have sO : ∀ x y, InS O x y → (x, y) ∈ L := fun x y z => hL x y (Op.sub ((i1 x y).1 z))
      have lO := Can.count c1 sO
      have lF := Can.count c h
      obtain ⟨U, e2, c2, i2⟩ := united_ok c.1 c1.1 (by show _ ≤ 16777216; omega)
      obtain ⟨G, g1, g2, g3, g4⟩ := ih U (fun m mm => hn m (List.mem_cons_of_mem _ mm)) c2 fun x y z => ((i2 x y).1 z).elim (h x y) (sO x y)
      refine ⟨G, g1, g2, fun x y => ?_, fun k => ?_⟩
      · rw [g3, i2, i1]
        constructor
        · rintro ((q | q) | ⟨m, mm, q⟩)
          · exact .inl q
          · exact .inr ⟨n, List.mem_cons_self .., q⟩
          · exact .inr ⟨m, List.mem_cons_of_mem _ mm, q⟩
        · rintro (q | ⟨m, mm, q⟩)
          · exact .inl (.inl q)
          · rcases List.mem_cons.1 mm with rfl | mm
            · exact .inl (.inr q)
            · exact .inr ⟨m, mm, q⟩
      · show ((m_opened A n).bind _) = _
        rw [e1, Option.bind_some, e2]
        exact g4 k
  obtain ⟨G, g1, g2, g3, g4⟩ := step sides [] hs Can.nil fun x y z => absurd z InS.nil
  have lA := Can.count hA hL
  have lG := Can.count g1 g2
  obtain ⟨R, e, c, i⟩ := less_ok (A := A) g1 (Nat.le_trans (Nat.mul_le_mul (Nat.le_trans lA hl) (Nat.succ_le_succ (Nat.le_trans lG hl))) (by decide))
  refine ⟨R, ?_, c, fun x y => ?_⟩
  · unfold m_rest
    refine (g4 _).trans ?_
    rw [e]; rfl
  · rw [i, g3]
    exact ⟨fun z => ⟨z.1, fun q => z.2 (.inr q)⟩, fun z => ⟨z.1, fun q => q.elim (fun w => InS.nil w) z.2⟩⟩
/-! ### the law's own cells -/
def sqL (c : Int × Int) (n : Int) : List (Int × Int) := (rangeL 0 n).flatMap fun i => (rangeL 0 n).map fun j => (c.1 + i, c.2 + j)
theorem sqL_mem {c p : Int × Int} {n : Int} : p ∈ sqL c n ↔ c.1 ≤ p.1 ∧ p.1 < c.1 + n ∧ c.2 ≤ p.2 ∧ p.2 < c.2 + n := by
  unfold sqL
  simp only [List.mem_flatMap, List.mem_map, mem_range2]
  constructor
  · rintro ⟨i, hi, j, hj, rfl⟩
    dsimp only; omega
  · intro h
    exact ⟨p.1 - c.1, by omega, p.2 - c.2, by omega, Prod.ext (by dsimp only; omega) (by dsimp only; omega)⟩
theorem sqL_len {c : Int × Int} {n : Int} (h1 : n ≤ 4) : (sqL c n).length ≤ 16 := by
  have : ∀ t : List Int, (t.flatMap fun i => (rangeL 0 n).map fun j => (c.1 + i, c.2 + j)).length = t.length * (rangeL 0 n).length := fun t => by
    induction t with
    | nil => simp
    | cons s t ih => rw [List.flatMap_cons, List.length_append, List.length_cons, List.length_map, ih, Nat.add_mul, Nat.one_mul]; omega
  have hr : (rangeL 0 n).length ≤ 4 := by rw [rangeL_len]; omega
  unfold sqL
  rw [this]
  exact Nat.mul_le_mul hr hr
theorem square_ok {c : Int × Int} {n : Int} (h0 : 0 < n) (h1 : n ≤ 4) : m__law_square c n = some (sqL c n) := by
  unfold m__law_square
  dsimp only
  have hr : (rangeL 0 n).length ≤ 4 := by rw [rangeL_len]; omega
  have hSZ : (100 : Nat) ≤ SZ := by decide
  rw [rgOk_small (by omega) (by omega) (by omega) (by omega), ck_true]
  refine (forO_cat (fun i => (rangeL 0 n).map fun j => (c.1 + i, c.2 + j)) 4 SZ _ [] (by simp only [List.length_nil]; omega) fun i mi => ⟨by rw [List.length_map]; exact hr, fun t kc ht => ?_⟩).trans ?_
  · rw [ck_true]
    refine (compO_map (fun j => (c.1 + i, c.2 + j)) () _ [] (by simp only [List.length_nil]; omega) (fun _ _ _ => rfl)).trans ?_
    rw [List.nil_append, decide_eq_true (by rw [List.length_map]; omega), ck_true]
  · rw [List.nil_append]; rfl
theorem each_ok {L : List (Int × Int)} (hl : L.length ≤ 100000) : ∃ E, m__law_each L = some E ∧ (∀ p, p ∈ E ↔ p ∈ L) ∧ E.length ≤ L.length := by
  unfold m__law_each
  rw [Option.bind_some]
  dsimp only
  have hlen : (sortB lpp L).length = L.length := sortB_len
  have hm : ∀ p, p ∈ sortB lpp L ↔ p ∈ L := fun p => sortB_mem
  generalize sortB lpp L = F at hlen hm
  have gt : ∀ {k : Nat}, k < F.length → atI F (k : Int) = some (F.getD k (0, 0)) := fun {k} h => by
    rw [Z.atI_nat h]; simp [List.getD_eq_getElem?_getD, List.getElem?_eq_getElem h]
  have hSZ : (100000 : Nat) ≤ SZ := by decide
  refine ⟨((rangeL 0 (F.length : Int)).filterMap fun k : Int => if k = 0 ∨ F.getD k.toNat (0, 0) ≠ F.getD (k - 1).toNat (0, 0) then some (F.getD k.toNat (0, 0)) else none), ?_, fun p => ?_, ?_⟩
  · rw [rgOk_nat (by omega), ck_true]
    refine (compO_filterMap (fun k : Int => if k = 0 ∨ F.getD k.toNat (0, 0) ≠ F.getD (k - 1).toNat (0, 0) then some (F.getD k.toNat (0, 0)) else none) () _ [] (by rw [rangeL_len]; simp only [List.length_nil]; omega) fun x mx kc => ?_).trans (by rw [List.nil_append])
    obtain ⟨k, hk, rfl⟩ := mem_rangeL.1 mx
    by_cases z : (k : Int) = 0
    · rw [if_pos (decide_eq_true z), gt hk, if_pos (Or.inl z)]
      simp
    · rw [if_neg (show ¬ (decide ((k : Int) = 0) = true) from fun w => z (of_decide_eq_true w)), gt hk, show ((k : Int) - 1) = ((k - 1 : Nat) : Int) by omega, gt (by omega)]
      simp only [Option.bind_some, Int.toNat_natCast]
      by_cases q : F.getD k (0, 0) = F.getD (k - 1) (0, 0)
      · rw [decide_eq_true q, if_neg (show ¬ ((!true) = true) by decide), if_neg (fun w => w.elim z fun r => r q)]
      · rw [decide_eq_false q, if_pos (show (!false) = true by decide), if_pos (.inr q)]
  · rw [← hm]
    constructor
    · intro m
      obtain ⟨k, mk, e⟩ := List.mem_filterMap.1 m
      obtain ⟨k, hk, rfl⟩ := mem_rangeL.1 mk
      split at e
      · cases e
        rw [Int.toNat_natCast, List.getD_eq_getElem?_getD, List.getElem?_eq_getElem hk]
        exact List.getElem_mem hk
      · cases e
    · intro m
      obtain ⟨k, hk, e⟩ := List.mem_iff_getElem.1 m
      have e' : F.getD k (0, 0) = p := by rw [List.getD_eq_getElem?_getD, List.getElem?_eq_getElem hk]; exact e
      clear e m
      induction k with
      | zero => exact List.mem_filterMap.2 ⟨0, mem_range2.2 ⟨Int.le_refl _, by omega⟩, by rw [if_pos (.inl rfl)]; exact congrArg some e'⟩
      | succ k ih =>
        by_cases q : F.getD (k + 1) (0, 0) = F.getD k (0, 0)
        · exact ih (by omega) (q.symm.trans e')
        · refine List.mem_filterMap.2 ⟨((k + 1 : Nat) : Int), mem_range2.2 ⟨by omega, by omega⟩, ?_⟩
          rw [if_pos (.inr (by rw [Int.toNat_natCast, show (((k + 1 : Nat) : Int) - 1).toNat = k by omega]; exact q)), Int.toNat_natCast]
          exact congrArg some e'
  · refine Nat.le_trans (List.length_filterMap_le _ _) ?_
    rw [rangeL_len]; omega
theorem lswept_ok {C : List (Int × Int)} {n : Int} (h0 : 0 < n) (h1 : n ≤ 4) (hl : C.length ≤ 1000) : ∃ E, m__law_swept C n = some E ∧ (∀ p, p ∈ E ↔ ∃ c ∈ C, p ∈ sqL c n) ∧ E.length ≤ 16000 := by
  have hSZ : (100000 : Nat) ≤ SZ := by decide
  have outer : ∀ t : List (Int × Int), (t.flatMap fun c => sqL c n).length ≤ t.length * 16 := fun t => by
    induction t with
    | nil => simp
    | cons s t ih => have := sqL_len (c := s) h1; rw [List.flatMap_cons, List.length_append, List.length_cons, Nat.add_mul, Nat.one_mul]; omega
  have ho := outer C
  obtain ⟨E, e, m, l⟩ := each_ok (L := C.flatMap fun c => sqL c n) (by omega)
  refine ⟨E, ?_, fun p => by rw [m, List.mem_flatMap], by omega⟩
  unfold m__law_swept
  dsimp only
  refine (forO_cat (fun c => sqL c n) 16 SZ C [] (by simp only [List.length_nil]; omega) fun c mc => ⟨sqL_len h1, fun t kc ht => ?_⟩).trans ?_
  · have := sqL_len (c := c) h1
    rw [square_ok h0 h1, Option.bind_some, decide_eq_true (by omega), ck_true]
  · rw [List.nil_append, e]; rfl
theorem lshrunk_ok {C : List (Int × Int)} {n : Int} (h0 : 0 < n) (h1 : n ≤ 4) (hl : C.length ≤ 1000) : ∃ S, m__law_shrunk C n = some S ∧ (∀ p, p ∈ S ↔ p ∈ C ∧ ∀ q ∈ sqL p n, q ∈ C) ∧ S.length ≤ 1000 := by
  have hSZ : (100000 : Nat) ≤ SZ := by decide
  refine ⟨C.filterMap fun c => if ((sqL c n).filterMap fun q => if (!inB q C) = true then some q else none).length = 0 then some c else none, ?_, fun p => ?_, Nat.le_trans (List.length_filterMap_le _ _) hl⟩
  · unfold m__law_shrunk
    refine (compO_filterMap (fun c => if ((sqL c n).filterMap fun q => if (!inB q C) = true then some q else none).length = 0 then some c else none) () C [] (by simp only [List.length_nil]; omega) fun c mc kc => ?_).trans (by rw [List.nil_append])
    have := sqL_len (c := c) h1
    rw [square_ok h0 h1, Option.bind_some]
    refine (compO_filterMap (fun q => if (!inB q C) = true then some q else none) () (sqL c n) [] (by simp only [List.length_nil]; omega) fun q mq kc => ?_).trans ?_
    · split <;> rfl
    · rw [List.nil_append]
      by_cases z : ((sqL c n).filterMap fun q => if (!inB q C) = true then some q else none).length = 0
      · rw [if_pos (decide_eq_true (by rw [z]; rfl)), if_pos z]
      · rw [if_neg (fun w => z (by have := of_decide_eq_true w; omega)), if_neg z]
  · rw [List.mem_filterMap]
    have key : ((sqL p n).filterMap fun q => if (!inB q C) = true then some q else none).length = 0 ↔ ∀ q ∈ sqL p n, q ∈ C := by
      rw [List.length_eq_zero_iff, List.filterMap_eq_nil_iff]
      refine forall_congr' fun q => forall_congr' fun _ => ?_
      rw [← inB_iff (x := q)]
      cases inB q C <;> simp
    constructor
    · rintro ⟨c, mc, e⟩
      split at e
      · rename_i z
        cases e
        exact ⟨mc, key.1 z⟩
      · cases e
    · rintro ⟨mc, h⟩
      exact ⟨p, mc, if_pos (key.2 h)⟩
/-! ### the drawing -/
theorem drawB_ok {n v s : Int} {sc : List Int} (hn : 0 ≤ n) (h0 : 0 < s) (h1 : s < 1073741824) : ∃ d n' v', m__law_draw [n, v] sc s = some (d, [n', v']) ∧ 0 ≤ d ∧ d < s ∧ 0 ≤ n' := by
  have a1 : ∀ a b : Int, atI [a, b] (1 : Int) = some b := fun _ _ => rfl
  have a0 : ∀ a b : Int, atI [a, b] (0 : Int) = some a := fun _ _ => rfl
  have i1 : ∀ a b : Int, ixN [a, b].length (1 : Int) = some 1 := fun _ _ => rfl
  have i0 : ∀ a b : Int, ixN [a, b].length (0 : Int) = some 0 := fun _ _ => rfl
  have s1 : ∀ a b c : Int, List.set [a, b] 1 c = [a, c] := fun _ _ _ => rfl
  have s0 : ∀ a b c : Int, List.set [a, b] 0 c = [c, b] := fun _ _ _ => rfl
  have m1 : ∀ x, mulOk x 7919 = true := fun x => mulOk_r (by decide) (by decide)
  have m2 : ∀ x, mulOk x 48271 = true := fun x => mulOk_r (by decide) (by decide)
  have m3 : ∀ x, mulOk x 69621 = true := fun x => mulOk_r (by decide) (by decide)
  have m4 : ∀ x, mulOk x 104729 = true := fun x => mulOk_r (by decide) (by decide)
  have m5 : ∀ x, mulOk 2 x = true := fun x => mulOk_l (by decide) (by decide)
  have d1 : modOk 2147483647 = true := by decide
  have d2 : modOk 4294967291 = true := by decide
  have p1 : powOk 10 18 = true := by decide
  unfold m__law_draw
  by_cases hl : (0 : Int) < (sc.length : Int)
  · obtain ⟨k, hk, e, ek⟩ := atI_pos (xs := sc) (Int.fmod_nonneg_of_pos n hl) (Int.fmod_lt_of_pos n hl)
    simp only [a1, a0, i1, i0, s1, s0, m1, m2, m3, m4, m5, d1, d2, p1, modOk_pos h0, divOk_pos h0 h1, modOk_pos hl, ck_true, Option.bind_some, ek]
    repeat' split
    all_goals exact ⟨_, _, _, rfl, Int.fmod_nonneg_of_pos _ h0, Int.fmod_lt_of_pos _ h0, by omega⟩
  · simp only [a1, a0, i1, i0, s1, s0, m1, m2, m3, m4, m5, d1, d2, p1, modOk_pos h0, divOk_pos h0 h1, ck_true, Option.bind_some]
    rw [if_neg (show ¬ (decide ((0 : Int) < (sc.length : Int)) = true) from fun z => hl (of_decide_eq_true z))]
    repeat' split
    all_goals exact ⟨_, _, _, rfl, Int.fmod_nonneg_of_pos _ h0, Int.fmod_lt_of_pos _ h0, by omega⟩
theorem forO_exN {α S Ω : Type} {P : Ω → Prop} (Inv : Nat → S → Prop) {b : α → S → (S → Option Ω) → Option Ω} {k : S → Option Ω} : ∀ (xs : List α) (n : Nat) (s : S), Inv n s →
    (∀ i s x, xs[i]? = some x → Inv (n + i) s → ∀ kc : S → Option Ω, (∀ s', Inv (n + i + 1) s' → ∃ r, kc s' = some r ∧ P r) → ∃ r, b x s kc = some r ∧ P r) → (∀ s, Inv (n + xs.length) s → ∃ r, k s = some r ∧ P r) → ∃ r, forO xs s b k = some r ∧ P r
  | [], n, s, h0, _, he => he s h0
  | x :: xs, n, s, h0, hs, he => hs 0 s x rfl h0 _ fun s' h' => forO_exN Inv xs (n + 1) s' h'
      (fun i s y e h kc hk => hs (i + 1) s y e (by rw [show n + (i + 1) = n + 1 + i by omega]; exact h) kc fun s' h' => hk s' (by rw [show n + 1 + i + 1 = n + (i + 1) + 1 by omega]; exact h'))
      fun s h => he s (by rw [show n + (x :: xs).length = n + 1 + xs.length by simp; omega]; exact h)
theorem blob_ok {n v s : Int} {sc : List Int} (hn : 0 ≤ n) (h0 : 0 < s) (h1 : s ≤ 7) : ∃ r, m__law_blob [n, v] sc s = some r ∧ (∃ n' v', r.2 = [n', v'] ∧ 0 ≤ n') ∧ r.1.length ≤ 49 ∧ ∀ p ∈ r.1, 0 ≤ p.1 ∧ p.1 < 7 ∧ 0 ≤ p.2 ∧ p.2 < 7 := by
  unfold m__law_blob
  obtain ⟨d, n1, v1, e, a, b, c⟩ := drawB_ok (v := v) (sc := sc) hn (show (0 : Int) < 3 by decide) (by decide)
  rw [e, Option.bind_some]
  dsimp only
  rw [rgOk_small (by omega) (by omega) (by omega) (by omega), ck_true]
  have hr : (rangeL 0 s).length ≤ 7 := by rw [rangeL_len]; omega
  have hSZ : (100000 : Nat) ≤ SZ := by decide
  refine forO_exN (fun i (t : List Int × List (Int × Int)) => (∃ n' v', t.1 = [n', v'] ∧ 0 ≤ n') ∧ t.2.length ≤ 7 * i ∧ ∀ p ∈ t.2, 0 ≤ p.1 ∧ p.1 < 7 ∧ 0 ≤ p.2 ∧ p.2 < 7) _ 0 _ ⟨⟨n1, v1, rfl, c⟩, by simp, fun _ m => nomatch m⟩ (fun i t y ey ht kc hk => ?_) fun t ht => ⟨_, rfl, ht.1, by dsimp only; have := ht.2.1; omega, ht.2.2⟩
  have hy := mem_range2.1 (List.mem_of_getElem? ey)
  have hi : i < (rangeL 0 s).length := (List.getElem?_eq_some_iff.mp ey).1
  rw [ck_true]
  refine forO_exN (fun j (t : List Int × List (Int × Int)) => (∃ n' v', t.1 = [n', v'] ∧ 0 ≤ n') ∧ t.2.length ≤ 7 * i + j ∧ ∀ p ∈ t.2, 0 ≤ p.1 ∧ p.1 < 7 ∧ 0 ≤ p.2 ∧ p.2 < 7) _ 0 _ ⟨ht.1, by have := ht.2.1; dsimp only; omega, ht.2.2⟩ (fun j t x ex ht kc2 hk2 => ?_) fun t ht => hk _ ⟨ht.1, by have := ht.2.1; dsimp only; omega, ht.2.2⟩
  have hx := mem_range2.1 (List.mem_of_getElem? ex)
  have hj : j < (rangeL 0 s).length := (List.getElem?_eq_some_iff.mp ex).1
  obtain ⟨⟨n2, v2, e2, c2⟩, l2, q2⟩ := ht
  obtain ⟨d3, n3, v3, e3, a3, b3, c3⟩ := drawB_ok (v := v2) (sc := sc) c2 (show (0 : Int) < 4 by decide) (by decide)
  rw [e2, e3, Option.bind_some]
  dsimp only
  rw [decide_eq_true (show t.2.length < SZ by omega), ck_true]
  split
  · refine hk2 _ ⟨⟨n3, v3, rfl, c3⟩, by dsimp only; rw [List.length_append, List.length_singleton]; omega, fun p m => ?_⟩
    rcases List.mem_append.1 m with m | m
    · exact q2 p m
    · rw [List.mem_singleton] at m; subst m; dsimp only; omega
  · exact hk2 _ ⟨⟨n3, v3, rfl, c3⟩, by dsimp only; omega, q2⟩
/-! ### the text of a region -/
theorem reg_show {R : List Sp3} (hb : ∀ s ∈ R, s.1.natAbs < 10 ^ 12 ∧ s.2.1.natAbs < 10 ^ 12 ∧ s.2.2.natAbs < 10 ^ 12) (hl : R.length ≤ 1000) : showOk ((eL (eT3 eI eI eI)).enc R) = true := by
  have lg : ∀ i : Int, i.natAbs < 10 ^ 12 → i.natAbs.log2 < 1920 := fun i h => by
    by_cases z : i.natAbs = 0
    · rw [z]; decide
    · exact (Nat.log2_lt z).2 (Nat.lt_of_lt_of_le h (by decide +kernel))
  have sh : ∀ T : List Sp3, (∀ s ∈ T, s.1.natAbs < 10 ^ 12 ∧ s.2.1.natAbs < 10 ^ 12 ∧ s.2.2.natAbs < 10 ^ 12) → PyData.showableAll (T.map (eT3 eI eI eI).enc) = true ∧ PyData.leavesShortAll 13 (T.map (eT3 eI eI eI).enc) = true ∧ PyData.bulkAll (T.map (eT3 eI eI eI).enc) = 4 * T.length := by
    intro T
    induction T with
    | nil => intro _; exact ⟨by rw [List.map_nil, PyData.showableAll], by rw [List.map_nil, PyData.leavesShortAll], by rw [List.map_nil, PyData.bulkAll]; rfl⟩
    | cons s T ih =>
      intro h
      obtain ⟨i1, i2, i3⟩ := ih fun t m => h t (List.mem_cons_of_mem _ m)
      obtain ⟨h1, h2, h3⟩ := h s (List.mem_cons_self ..)
      have e : (eT3 eI eI eI).enc s = .tuple [.int s.1, .int s.2.1, .int s.2.2] := rfl
      rw [List.map_cons, e]
      refine ⟨?_, ?_, ?_⟩
      · rw [PyData.showableAll, i1]
        simp [PyData.showable, PyData.showableAll, lg _ h1, lg _ h2, lg _ h3]
      · rw [PyData.leavesShortAll, i2]
        simp [PyData.leavesShort, PyData.leavesShortAll, PyData.shown_int_le h1, PyData.shown_int_le h2, PyData.shown_int_le h3]
      · rw [PyData.bulkAll, i3]
        simp [PyData.bulk, PyData.bulkAll]
        omega
  obtain ⟨a, b, c⟩ := sh R hb
  have e : (eL (eT3 eI eI eI)).enc R = .list (R.map (eT3 eI eI eI).enc) := rfl
  have d1 := (dtL (dtT3 dtI dtI dtI)).lay R
  have d2 := (dtL (dtT3 dtI dtI dtI)).dep R
  have d3 : ((eL (eT3 eI eI eI)).enc R).shown.length ≤ sizeLine := PyData.shown_fits_bulk (B := 13) (by decide) (by decide) (by rw [e, PyData.leavesShort]; exact b) (by
    rw [e, PyData.bulk, c]
    have : (4000 : Nat) ≤ 2 ^ 20 := by decide
    omega)
  unfold showOk
  rw [d1, decide_eq_true d3, decide_eq_true (show ((eL (eT3 eI eI eI)).enc R).depth ≤ 60 from Nat.le_trans d2 (by decide)), e, PyData.showable, a]
  rfl
/-! ### the law -/
theorem eq_can {R S : List Sp3} (hR : Can R) (hS : Can S) (h : ∀ x y, InS R x y ↔ InS S x y) : (!decide (R = S)) = false := by
  rw [decide_eq_true (Can.uniq hR hS h)]; rfl
theorem law_true (ns : List Int) (h : ns.length ≤ 63) : m_law ns = some true := by
  have hSZ : (100000 : Nat) ≤ SZ := by decide
  unfold m_law
  dsimp only
  obtain ⟨d, n1, v1, e1, a1, b1, c1⟩ := drawB_ok (n := 0) (v := 0) (sc := ns) (Int.le_refl 0) (show (0 : Int) < 7 by decide) (by decide)
  refine bind_wp e1 ?_
  dsimp only
  obtain ⟨⟨C, st⟩, e2, ⟨n2, v2, es, c2⟩, lC, qC⟩ := blob_ok (n := n1) (v := v1) (s := 1 + d) (sc := ns) c1 (by omega) (by omega)
  dsimp only at es lC qC
  subst es
  refine bind_wp e2 ?_
  dsimp only
  obtain ⟨A, eA, cA, iA, lA⟩ := region_ok (L := C) (by omega)
  refine bind_wp eA ?_
  have hL : ∀ x y, InS A x y → (x, y) ∈ C := fun x y z => (iA x y).1 z
  have sA : showOk ((eL (eT3 eI eI eI)).enc A) = true := reg_show (fun s ms => by
    have v := cA.1 s ms
    have w1 := qC _ ((iA s.2.1 s.1).1 ⟨s, ms, rfl, Int.le_refl _, v⟩)
    have w2 := qC _ ((iA s.2.2 s.1).1 ⟨s, ms, rfl, v, Int.le_refl _⟩)
    dsimp only at w1 w2
    omega) (by omega)
  have rA : reprO ((eL (eT3 eI eI eI)).enc A) = some ((eL (eT3 eI eI eI)).enc A).shown := if_pos sA
  refine bind_wp rA ?_
  obtain ⟨m, n3, v3, e3, a3, b3, c3⟩ := drawB_ok (n := n2) (v := v2) (sc := ns) c2 (show (0 : Int) < 3 by decide) (by decide)
  refine bind_wp e3 ?_
  dsimp only
  refine ck_wp (rgOk_small (by omega) (by omega) (by omega) (by omega)) ?_
  refine compO_wp (fun t : List Int => ∃ n v, t = [n, v] ∧ 0 ≤ n) (fun y : Int => 0 < y ∧ y ≤ 4) _ _ [] ⟨n3, v3, rfl, c3⟩ (fun _ m => nomatch m) (by rw [rangeL_len]; simp only [List.length_nil]; omega) (fun t x mx ht kc hk => ?_) fun sides t hlen hsides ht => ?_
  · obtain ⟨n4, v4, rfl, c4⟩ := ht
    obtain ⟨q, n5, v5, e5, a5, b5, c5⟩ := drawB_ok (n := n4) (v := v4) (sc := ns) c4 (show (0 : Int) < 4 by decide) (by decide)
    exact bind_wp e5 (hk _ _ ⟨by omega, by omega⟩ ⟨n5, v5, rfl, c5⟩)
  have lS : sides.length ≤ 2 := by rw [rangeL_len] at hlen; simp only [List.length_nil] at hlen; omega
  refine ck_wp (decide_eq_true (by simp only [List.length_cons, List.length_nil]; omega)) ?_
  have hCl : C.length ≤ 1000 := by omega
  -- what is told of one side
  have small : ∀ n : Int, 0 < n → n ≤ 4 → ∃ S E, m__law_shrunk C n = some S ∧ S.length ≤ 1000 ∧ (∀ x y, (x, y) ∈ S ↔ Fits A n x y) ∧ m__law_swept S n = some E ∧ E.length ≤ 16000 ∧ ∀ x y, (x, y) ∈ E ↔ Op A n x y := fun n h0 h1 => by
    obtain ⟨S, eS, iS, lS⟩ := lshrunk_ok (C := C) h0 h1 hCl
    obtain ⟨E, eE, iE, lE⟩ := lswept_ok (C := S) h0 h1 lS
    have fS : ∀ x y, (x, y) ∈ S ↔ Fits A n x y := fun x y => by
      rw [iS]
      constructor
      · rintro ⟨_, q⟩ i j i0 i1 j0 j1
        exact (iA _ _).2 (q _ (sqL_mem.2 ⟨by dsimp only; omega, by dsimp only; omega, by dsimp only; omega, by dsimp only; omega⟩))
      · intro q
        refine ⟨(iA x y).1 (by have := q 0 0 (Int.le_refl _) h0 (Int.le_refl _) h0; simpa using this), fun p mp => ?_⟩
        have w := sqL_mem.1 mp
        dsimp only at w
        have := q (p.1 - x) (p.2 - y) (by omega) (by omega) (by omega) (by omega)
        rw [show x + (p.1 - x) = p.1 by omega, show y + (p.2 - y) = p.2 by omega] at this
        exact (iA _ _).1 this
    refine ⟨S, E, eS, lS, fS, eE, lE, fun x y => ?_⟩
    rw [iE]
    constructor
    · rintro ⟨c, mc, q⟩
      have w := sqL_mem.1 q
      dsimp only at w
      exact ⟨x - c.1, y - c.2, by omega, by omega, by omega, by omega, (fS _ _).1 (by rw [show x - (x - c.1) = c.1 by omega, show y - (y - c.2) = c.2 by omega]; exact mc)⟩
    · rintro ⟨i, j, i0, i1, j0, j1, q⟩
      exact ⟨(x - i, y - j), (fS _ _).2 q, sqL_mem.2 ⟨by dsimp only; omega, by dsimp only; omega, by dsimp only; omega, by dsimp only; omega⟩⟩
  refine (forO_skip _ fun n mn kc => ?_).trans ?_
  · have hn : 0 < n ∧ n ≤ 4 := by
      rcases List.mem_append.1 mn with z | z
      · exact hsides n z
      · simp only [List.mem_cons, List.not_mem_nil, or_false] at z; omega
    obtain ⟨S, E, eS, lS', fS, eE, lE, iE⟩ := small n hn.1 hn.2
    obtain ⟨R1, r1, k1, j1⟩ := swept_ok cA.1 hn.1 hn.2 (by omega)
    obtain ⟨E1, r2, j2, l2⟩ := lswept_ok (C := C) hn.1 hn.2 hCl
    obtain ⟨R2, r3, k3, j3, _⟩ := lregion_ok (L := E1) (by omega)
    obtain ⟨R4, r4, k4, j4⟩ := shrunk_ok cA hL hn.1 hn.2 hCl
    obtain ⟨R5, r5, k5, j5, _⟩ := lregion_ok (L := S) (by omega)
    obtain ⟨R6, r6, k6, j6⟩ := opened_ok cA hL hn.1 hn.2 hCl
    obtain ⟨R7, r7, k7, j7, _⟩ := lregion_ok (L := E) (by omega)
    have q1 : (!decide (R1 = R2)) = false := eq_can k1 k3 fun x y => by
      rw [j1, j3, j2]
      constructor
      · rintro ⟨i, j, i0, i1, j0, j1', q⟩
        exact ⟨(x - i, y - j), (iA _ _).1 q, sqL_mem.2 ⟨by dsimp only; omega, by dsimp only; omega, by dsimp only; omega, by dsimp only; omega⟩⟩
      · rintro ⟨c, mc, q⟩
        have w := sqL_mem.1 q
        dsimp only at w
        exact ⟨x - c.1, y - c.2, by omega, by omega, by omega, by omega, (iA _ _).2 (by rw [show x - (x - c.1) = c.1 by omega, show y - (y - c.2) = c.2 by omega]; exact mc)⟩
    have q2 : (!decide (R4 = R5)) = false := eq_can k4 k5 fun x y => by rw [j4, j5, fS]
    have q3 : (!decide (R6 = R7)) = false := eq_can k6 k7 fun x y => by rw [j6, j7, iE]; rfl
    rw [eS, Option.bind_some, r1, Option.bind_some, r2, Option.bind_some, r3, Option.bind_some, q1, if_neg (by decide), r4, Option.bind_some, r5, Option.bind_some, q2, if_neg (by decide), r6, Option.bind_some, eE, Option.bind_some, r7, Option.bind_some, q3, if_neg (by decide)]
  -- all sides together
  have cat := forO_cat (Ω := Bool) (fun n : Int => ((m__law_shrunk C n).bind fun S => m__law_swept S n).getD []) 16000 SZ (b := fun x681 (t680 : (List (Int × Int))) kc682 => (
        (m__law_shrunk C x681).bind fun r687 =>
        (m__law_swept r687 x681).bind fun r690 =>
        ck (decide (List.length t680 + List.length r690 ≤ SZ)) (kc682 (t680 ++ r690)))) (k := fun t695 : (List (Int × Int)) => (
        (m_rest A sides).bind fun r698 =>
        compO C () (fun x702 (t701 : Unit) kc708 => (
          if (!inB x702 t695) = true then (kc708 (some x702) ()) else kc708 none ())) [] fun (ys706 : List (Int × Int)) (t707 : Unit) => (
          (m__law_region ys706).bind fun r710 =>
          if (decide (r698 = r710)) = true then ((reprO ((eL (eT3 eI eI eI)).enc A)).bind fun y712 =>
          some (decide (y712 = ((eL (eT3 eI eI eI)).enc A).shown))) else some false))) sides [] (by simp only [List.length_nil]; omega) fun n mn => by
    obtain ⟨S, E, eS, lS', fS, eE, lE, iE⟩ := small n (hsides n mn).1 (hsides n mn).2
    rw [eS, Option.bind_some, eE]
    refine ⟨lE, fun s kc hs => ?_⟩
    rw [Option.bind_some, eE, Option.bind_some, decide_eq_true (show s.length + E.length ≤ SZ by omega), ck_true]
    rfl
  refine cat.trans ?_
  obtain ⟨R, r1, k1, j1⟩ := rest_ok cA hL hsides hCl
  refine bind_wp r1 ?_
  refine (compO_filterMap (fun c => if (!inB c ([] ++ sides.flatMap fun n : Int => ((m__law_shrunk C n).bind fun S => m__law_swept S n).getD [])) = true then some c else none) () C [] (by simp only [List.length_nil]; omega) fun c mc kc => by split <;> rfl).trans ?_
  rw [List.nil_append, List.nil_append]
  obtain ⟨R', r2, k2, j2, _⟩ := lregion_ok (L := C.filterMap fun c => if (!inB c (sides.flatMap fun n : Int => ((m__law_shrunk C n).bind fun S => m__law_swept S n).getD [])) = true then some c else none) (Nat.le_trans (List.length_filterMap_le _ _) (by omega))
  refine bind_wp r2 ?_
  have eqR : R = R' := Can.uniq k1 k2 fun x y => by
    rw [j1, j2, List.mem_filterMap, iA]
    have hop : (x, y) ∈ (sides.flatMap fun n : Int => ((m__law_shrunk C n).bind fun S => m__law_swept S n).getD []) ↔ ∃ n ∈ sides, Op A n x y := by
      rw [List.mem_flatMap]
      constructor
      · rintro ⟨n, mn, q⟩
        obtain ⟨S, E, eS, lS', fS, eE, lE, iE⟩ := small n (hsides n mn).1 (hsides n mn).2
        rw [eS, Option.bind_some, eE] at q
        exact ⟨n, mn, (iE x y).1 q⟩
      · rintro ⟨n, mn, q⟩
        obtain ⟨S, E, eS, lS', fS, eE, lE, iE⟩ := small n (hsides n mn).1 (hsides n mn).2
        refine ⟨n, mn, ?_⟩
        rw [eS, Option.bind_some, eE]
        exact (iE x y).2 q
    rw [← hop]
    constructor
    · rintro ⟨p, q⟩
      exact ⟨(x, y), p, if_pos (by rw [Bool.eq_false_iff.2 (fun w => q (inB_iff.1 w))]; rfl)⟩
    · rintro ⟨c, mc, q⟩
      split at q
      · rename_i z
        cases q
        exact ⟨mc, fun w => by rw [inB_iff.2 w] at z; exact absurd z (by decide)⟩
      · cases q
  rw [if_pos (decide_eq_true eqR)]
  refine bind_wp rA ?_
  rw [decide_eq_true rfl]

/-- what the law's call promises -/
def spLaw (K : Fg) : Sp := fun vs H Q _ => ∃ (a : Addr) (ns : List Int), vs = [.ref a] ∧ SqL K H a (ns.map V.int) ∧ ns.length ≤ 63 ∧ ∀ H', Q (.bl true) H'
theorem ok_end {P : Program} {w : World} {K : Fg} {mg : Str → Option Value} {base : Heap} (fa : Fa K mg) : FnG P w K mg base 6 fa.f_law fa.fd_law ["script"] (spLaw K) :=
  (ok_law fa).weak fun vs H Q E h => by
    obtain ⟨a, ns, rfl, hS, hlen, q⟩ := h
    exact law_sp hS (law_true ns hlen) q
theorem all_mk {l : PySem.W.OpenLaw} {w : World} {K : Fg} {h : Heap} {mg : Str → Option Value} {fz f0 f1 f2 f3 f4 f5 f6 f7 f8 f9 f10 f11 f12 f13 f14 f15 f16 f17 : Addr} (X : K.In h) (G : h.Ns mainGlobals mg) (hfa : mg "law" = some (.ref fz))
    {od0 an0 : Option Addr} {sl0 : Array (Option Value)} {oc0 kV0 dc0 pm0 cd0 ct0 : Value}
    (a0 : PySem.W.nsIn K mainGlobals "region_of" = some (some (.ref f0))) (l0 : K.lookup f0 = some ⟨oc0, od0, .func (PySem.W.fnOf "region_of" "region_of" (defArgs s_region_of) (defBody s_region_of) (defScope s_region_of) .none kV0 dc0 pm0 an0 cd0 ct0), sl0⟩) (c0 : PySem.W.codeIn K cd0 "region_of" = true) (k0 : PySem.W.keepIn K (.ref f0) = true)
    {od1 an1 : Option Addr} {sl1 : Array (Option Value)} {oc1 kV1 dc1 pm1 cd1 ct1 : Value}
    (a1 : PySem.W.nsIn K mainGlobals "joint" = some (some (.ref f1))) (l1 : K.lookup f1 = some ⟨oc1, od1, .func (PySem.W.fnOf "joint" "joint" (defArgs s_joint) (defBody s_joint) (defScope s_joint) .none kV1 dc1 pm1 an1 cd1 ct1), sl1⟩) (c1 : PySem.W.codeIn K cd1 "joint" = true) (k1 : PySem.W.keepIn K (.ref f1) = true)
    {od2 an2 : Option Addr} {sl2 : Array (Option Value)} {oc2 kV2 dc2 pm2 cd2 ct2 : Value}
    (a2 : PySem.W.nsIn K mainGlobals "united" = some (some (.ref f2))) (l2 : K.lookup f2 = some ⟨oc2, od2, .func (PySem.W.fnOf "united" "united" (defArgs s_united) (defBody s_united) (defScope s_united) .none kV2 dc2 pm2 an2 cd2 ct2), sl2⟩) (c2 : PySem.W.codeIn K cd2 "united" = true) (k2 : PySem.W.keepIn K (.ref f2) = true)
    {od3 an3 : Option Addr} {sl3 : Array (Option Value)} {oc3 kV3 dc3 pm3 cd3 ct3 : Value}
    (a3 : PySem.W.nsIn K mainGlobals "common" = some (some (.ref f3))) (l3 : K.lookup f3 = some ⟨oc3, od3, .func (PySem.W.fnOf "common" "common" (defArgs s_common) (defBody s_common) (defScope s_common) .none kV3 dc3 pm3 an3 cd3 ct3), sl3⟩) (c3 : PySem.W.codeIn K cd3 "common" = true) (k3 : PySem.W.keepIn K (.ref f3) = true)
    {od4 an4 : Option Addr} {sl4 : Array (Option Value)} {oc4 kV4 dc4 pm4 cd4 ct4 : Value}
    (a4 : PySem.W.nsIn K mainGlobals "less" = some (some (.ref f4))) (l4 : K.lookup f4 = some ⟨oc4, od4, .func (PySem.W.fnOf "less" "less" (defArgs s_less) (defBody s_less) (defScope s_less) .none kV4 dc4 pm4 an4 cd4 ct4), sl4⟩) (c4 : PySem.W.codeIn K cd4 "less" = true) (k4 : PySem.W.keepIn K (.ref f4) = true)
    {od5 an5 : Option Addr} {sl5 : Array (Option Value)} {oc5 kV5 dc5 pm5 cd5 ct5 : Value}
    (a5 : PySem.W.nsIn K mainGlobals "swept" = some (some (.ref f5))) (l5 : K.lookup f5 = some ⟨oc5, od5, .func (PySem.W.fnOf "swept" "swept" (defArgs s_swept) (defBody s_swept) (defScope s_swept) .none kV5 dc5 pm5 an5 cd5 ct5), sl5⟩) (c5 : PySem.W.codeIn K cd5 "swept" = true) (k5 : PySem.W.keepIn K (.ref f5) = true)
    {od6 an6 : Option Addr} {sl6 : Array (Option Value)} {oc6 kV6 dc6 pm6 cd6 ct6 : Value}
    (a6 : PySem.W.nsIn K mainGlobals "shrunk" = some (some (.ref f6))) (l6 : K.lookup f6 = some ⟨oc6, od6, .func (PySem.W.fnOf "shrunk" "shrunk" (defArgs s_shrunk) (defBody s_shrunk) (defScope s_shrunk) .none kV6 dc6 pm6 an6 cd6 ct6), sl6⟩) (c6 : PySem.W.codeIn K cd6 "shrunk" = true) (k6 : PySem.W.keepIn K (.ref f6) = true)
    {od7 an7 : Option Addr} {sl7 : Array (Option Value)} {oc7 kV7 dc7 pm7 cd7 ct7 : Value}
    (a7 : PySem.W.nsIn K mainGlobals "opened" = some (some (.ref f7))) (l7 : K.lookup f7 = some ⟨oc7, od7, .func (PySem.W.fnOf "opened" "opened" (defArgs s_opened) (defBody s_opened) (defScope s_opened) .none kV7 dc7 pm7 an7 cd7 ct7), sl7⟩) (c7 : PySem.W.codeIn K cd7 "opened" = true) (k7 : PySem.W.keepIn K (.ref f7) = true)
    {od8 an8 : Option Addr} {sl8 : Array (Option Value)} {oc8 kV8 dc8 pm8 cd8 ct8 : Value}
    (a8 : PySem.W.nsIn K mainGlobals "rest" = some (some (.ref f8))) (l8 : K.lookup f8 = some ⟨oc8, od8, .func (PySem.W.fnOf "rest" "rest" (defArgs s_rest) (defBody s_rest) (defScope s_rest) .none kV8 dc8 pm8 an8 cd8 ct8), sl8⟩) (c8 : PySem.W.codeIn K cd8 "rest" = true) (k8 : PySem.W.keepIn K (.ref f8) = true)
    {od9 an9 : Option Addr} {sl9 : Array (Option Value)} {oc9 kV9 dc9 pm9 cd9 ct9 : Value}
    (a9 : PySem.W.nsIn K mainGlobals "_law_draw" = some (some (.ref f9))) (l9 : K.lookup f9 = some ⟨oc9, od9, .func (PySem.W.fnOf "_law_draw" "_law_draw" (defArgs s__law_draw) (defBody s__law_draw) (defScope s__law_draw) .none kV9 dc9 pm9 an9 cd9 ct9), sl9⟩) (c9 : PySem.W.codeIn K cd9 "_law_draw" = true) (k9 : PySem.W.keepIn K (.ref f9) = true)
    {od10 an10 : Option Addr} {sl10 : Array (Option Value)} {oc10 kV10 dc10 pm10 cd10 ct10 : Value}
    (a10 : PySem.W.nsIn K mainGlobals "_law_pick" = some (some (.ref f10))) (l10 : K.lookup f10 = some ⟨oc10, od10, .func (PySem.W.fnOf "_law_pick" "_law_pick" (defArgs s__law_pick) (defBody s__law_pick) (defScope s__law_pick) .none kV10 dc10 pm10 an10 cd10 ct10), sl10⟩) (c10 : PySem.W.codeIn K cd10 "_law_pick" = true) (k10 : PySem.W.keepIn K (.ref f10) = true)
    {od11 an11 : Option Addr} {sl11 : Array (Option Value)} {oc11 kV11 dc11 pm11 cd11 ct11 : Value}
    (a11 : PySem.W.nsIn K mainGlobals "_law_blob" = some (some (.ref f11))) (l11 : K.lookup f11 = some ⟨oc11, od11, .func (PySem.W.fnOf "_law_blob" "_law_blob" (defArgs s__law_blob) (defBody s__law_blob) (defScope s__law_blob) .none kV11 dc11 pm11 an11 cd11 ct11), sl11⟩) (c11 : PySem.W.codeIn K cd11 "_law_blob" = true) (k11 : PySem.W.keepIn K (.ref f11) = true)
    {od12 an12 : Option Addr} {sl12 : Array (Option Value)} {oc12 kV12 dc12 pm12 cd12 ct12 : Value}
    (a12 : PySem.W.nsIn K mainGlobals "_law_region" = some (some (.ref f12))) (l12 : K.lookup f12 = some ⟨oc12, od12, .func (PySem.W.fnOf "_law_region" "_law_region" (defArgs s__law_region) (defBody s__law_region) (defScope s__law_region) .none kV12 dc12 pm12 an12 cd12 ct12), sl12⟩) (c12 : PySem.W.codeIn K cd12 "_law_region" = true) (k12 : PySem.W.keepIn K (.ref f12) = true)
    {od13 an13 : Option Addr} {sl13 : Array (Option Value)} {oc13 kV13 dc13 pm13 cd13 ct13 : Value}
    (a13 : PySem.W.nsIn K mainGlobals "_law_square" = some (some (.ref f13))) (l13 : K.lookup f13 = some ⟨oc13, od13, .func (PySem.W.fnOf "_law_square" "_law_square" (defArgs s__law_square) (defBody s__law_square) (defScope s__law_square) .none kV13 dc13 pm13 an13 cd13 ct13), sl13⟩) (c13 : PySem.W.codeIn K cd13 "_law_square" = true) (k13 : PySem.W.keepIn K (.ref f13) = true)
    {od14 an14 : Option Addr} {sl14 : Array (Option Value)} {oc14 kV14 dc14 pm14 cd14 ct14 : Value}
    (a14 : PySem.W.nsIn K mainGlobals "_law_each" = some (some (.ref f14))) (l14 : K.lookup f14 = some ⟨oc14, od14, .func (PySem.W.fnOf "_law_each" "_law_each" (defArgs s__law_each) (defBody s__law_each) (defScope s__law_each) .none kV14 dc14 pm14 an14 cd14 ct14), sl14⟩) (c14 : PySem.W.codeIn K cd14 "_law_each" = true) (k14 : PySem.W.keepIn K (.ref f14) = true)
    {od15 an15 : Option Addr} {sl15 : Array (Option Value)} {oc15 kV15 dc15 pm15 cd15 ct15 : Value}
    (a15 : PySem.W.nsIn K mainGlobals "_law_swept" = some (some (.ref f15))) (l15 : K.lookup f15 = some ⟨oc15, od15, .func (PySem.W.fnOf "_law_swept" "_law_swept" (defArgs s__law_swept) (defBody s__law_swept) (defScope s__law_swept) .none kV15 dc15 pm15 an15 cd15 ct15), sl15⟩) (c15 : PySem.W.codeIn K cd15 "_law_swept" = true) (k15 : PySem.W.keepIn K (.ref f15) = true)
    {od16 an16 : Option Addr} {sl16 : Array (Option Value)} {oc16 kV16 dc16 pm16 cd16 ct16 : Value}
    (a16 : PySem.W.nsIn K mainGlobals "_law_shrunk" = some (some (.ref f16))) (l16 : K.lookup f16 = some ⟨oc16, od16, .func (PySem.W.fnOf "_law_shrunk" "_law_shrunk" (defArgs s__law_shrunk) (defBody s__law_shrunk) (defScope s__law_shrunk) .none kV16 dc16 pm16 an16 cd16 ct16), sl16⟩) (c16 : PySem.W.codeIn K cd16 "_law_shrunk" = true) (k16 : PySem.W.keepIn K (.ref f16) = true)
    {od17 an17 : Option Addr} {sl17 : Array (Option Value)} {oc17 kV17 dc17 pm17 cd17 ct17 : Value}
    (a17 : PySem.W.nsIn K mainGlobals "law" = some (some (.ref f17))) (l17 : K.lookup f17 = some ⟨oc17, od17, .func (PySem.W.fnOf "law" "law" (defArgs s_law) (defBody s_law) (defScope s_law) .none kV17 dc17 pm17 an17 cd17 ct17), sl17⟩) (c17 : PySem.W.codeIn K cd17 "law" = true) (k17 : PySem.W.keepIn K (.ref f17) = true)
    (z_int : PySem.W.nsIn K mainGlobals "int" = some none)
    (z_len : PySem.W.nsIn K mainGlobals "len" = some none)
    (z_max : PySem.W.nsIn K mainGlobals "max" = some none)
    (z_min : PySem.W.nsIn K mainGlobals "min" = some none)
    (z_range : PySem.W.nsIn K mainGlobals "range" = some none)
    (z_repr : PySem.W.nsIn K mainGlobals "repr" = some none)
    (z_sorted : PySem.W.nsIn K mainGlobals "sorted" = some none) :
    ∃ fd : FuncData, (∀ (s : Shared) (v : Value), BindsTo s fd ⟨[v], []⟩ [("script", v)]) ∧ ∀ base : Heap, K.In base → base.Ns mainGlobals mg → FnG l.prog w K mg base 6 fz fd ["script"] (spLaw K) := by
  have e := hfa.symm.trans (PySem.W.mg_of X G a17)
  cases e
  exact ⟨PySem.W.fnOf "law" "law" (defArgs s_law) (defBody s_law) (defScope s_law) .none kV17 dc17 pm17 an17 cd17 ct17, fun s v => .of_eq rfl, fun base _ _ => ok_end (fa := { f_region_of := f0, fd_region_of := PySem.W.fnOf "region_of" "region_of" (defArgs s_region_of) (defBody s_region_of) (defScope s_region_of) .none kV0 dc0 pm0 an0 cd0 ct0, F_region_of := fun_mk (st := s_region_of) l0 c0 k0, g_region_of := PySem.W.mg_of X G a0, b_region_of := (fun_mk (st := s_region_of) l0 c0 k0).binds fun _ _ _ _ _ _ us hl => match us, hl with | [_], _ => rfl, f_joint := f1, fd_joint := PySem.W.fnOf "joint" "joint" (defArgs s_joint) (defBody s_joint) (defScope s_joint) .none kV1 dc1 pm1 an1 cd1 ct1, F_joint := fun_mk (st := s_joint) l1 c1 k1, g_joint := PySem.W.mg_of X G a1, b_joint := (fun_mk (st := s_joint) l1 c1 k1).binds fun _ _ _ _ _ _ us hl => match us, hl with | [_], _ => rfl, f_united := f2, fd_united := PySem.W.fnOf "united" "united" (defArgs s_united) (defBody s_united) (defScope s_united) .none kV2 dc2 pm2 an2 cd2 ct2, F_united := fun_mk (st := s_united) l2 c2 k2, g_united := PySem.W.mg_of X G a2, b_united := (fun_mk (st := s_united) l2 c2 k2).binds fun _ _ _ _ _ _ us hl => match us, hl with | [_, _], _ => rfl, f_common := f3, fd_common := PySem.W.fnOf "common" "common" (defArgs s_common) (defBody s_common) (defScope s_common) .none kV3 dc3 pm3 an3 cd3 ct3, F_common := fun_mk (st := s_common) l3 c3 k3, g_common := PySem.W.mg_of X G a3, b_common := (fun_mk (st := s_common) l3 c3 k3).binds fun _ _ _ _ _ _ us hl => match us, hl with | [_, _], _ => rfl, f_less := f4, fd_less := PySem.W.fnOf "less" "less" (defArgs s_less) (defBody s_less) (defScope s_less) .none kV4 dc4 pm4 an4 cd4 ct4, F_less := fun_mk (st := s_less) l4 c4 k4, g_less := PySem.W.mg_of X G a4, b_less := (fun_mk (st := s_less) l4 c4 k4).binds fun _ _ _ _ _ _ us hl => match us, hl with | [_, _], _ => rfl, f_swept := f5, fd_swept := PySem.W.fnOf "swept" "swept" (defArgs s_swept) (defBody s_swept) (defScope s_swept) .none kV5 dc5 pm5 an5 cd5 ct5, F_swept := fun_mk (st := s_swept) l5 c5 k5, g_swept := PySem.W.mg_of X G a5, b_swept := (fun_mk (st := s_swept) l5 c5 k5).binds fun _ _ _ _ _ _ us hl => match us, hl with | [_, _], _ => rfl, f_shrunk := f6, fd_shrunk := PySem.W.fnOf "shrunk" "shrunk" (defArgs s_shrunk) (defBody s_shrunk) (defScope s_shrunk) .none kV6 dc6 pm6 an6 cd6 ct6, F_shrunk := fun_mk (st := s_shrunk) l6 c6 k6, g_shrunk := PySem.W.mg_of X G a6, b_shrunk := (fun_mk (st := s_shrunk) l6 c6 k6).binds fun _ _ _ _ _ _ us hl => match us, hl with | [_, _], _ => rfl, f_opened := f7, fd_opened := PySem.W.fnOf "opened" "opened" (defArgs s_opened) (defBody s_opened) (defScope s_opened) .none kV7 dc7 pm7 an7 cd7 ct7, F_opened := fun_mk (st := s_opened) l7 c7 k7, g_opened := PySem.W.mg_of X G a7, b_opened := (fun_mk (st := s_opened) l7 c7 k7).binds fun _ _ _ _ _ _ us hl => match us, hl with | [_, _], _ => rfl, f_rest := f8, fd_rest := PySem.W.fnOf "rest" "rest" (defArgs s_rest) (defBody s_rest) (defScope s_rest) .none kV8 dc8 pm8 an8 cd8 ct8, F_rest := fun_mk (st := s_rest) l8 c8 k8, g_rest := PySem.W.mg_of X G a8, b_rest := (fun_mk (st := s_rest) l8 c8 k8).binds fun _ _ _ _ _ _ us hl => match us, hl with | [_, _], _ => rfl, f__law_draw := f9, fd__law_draw := PySem.W.fnOf "_law_draw" "_law_draw" (defArgs s__law_draw) (defBody s__law_draw) (defScope s__law_draw) .none kV9 dc9 pm9 an9 cd9 ct9, F__law_draw := fun_mk (st := s__law_draw) l9 c9 k9, g__law_draw := PySem.W.mg_of X G a9, b__law_draw := (fun_mk (st := s__law_draw) l9 c9 k9).binds fun _ _ _ _ _ _ us hl => match us, hl with | [_, _, _], _ => rfl, f__law_pick := f10, fd__law_pick := PySem.W.fnOf "_law_pick" "_law_pick" (defArgs s__law_pick) (defBody s__law_pick) (defScope s__law_pick) .none kV10 dc10 pm10 an10 cd10 ct10, F__law_pick := fun_mk (st := s__law_pick) l10 c10 k10, g__law_pick := PySem.W.mg_of X G a10, b__law_pick := (fun_mk (st := s__law_pick) l10 c10 k10).binds fun _ _ _ _ _ _ us hl => match us, hl with | [_, _, _], _ => rfl, f__law_blob := f11, fd__law_blob := PySem.W.fnOf "_law_blob" "_law_blob" (defArgs s__law_blob) (defBody s__law_blob) (defScope s__law_blob) .none kV11 dc11 pm11 an11 cd11 ct11, F__law_blob := fun_mk (st := s__law_blob) l11 c11 k11, g__law_blob := PySem.W.mg_of X G a11, b__law_blob := (fun_mk (st := s__law_blob) l11 c11 k11).binds fun _ _ _ _ _ _ us hl => match us, hl with | [_, _, _], _ => rfl, f__law_region := f12, fd__law_region := PySem.W.fnOf "_law_region" "_law_region" (defArgs s__law_region) (defBody s__law_region) (defScope s__law_region) .none kV12 dc12 pm12 an12 cd12 ct12, F__law_region := fun_mk (st := s__law_region) l12 c12 k12, g__law_region := PySem.W.mg_of X G a12, b__law_region := (fun_mk (st := s__law_region) l12 c12 k12).binds fun _ _ _ _ _ _ us hl => match us, hl with | [_], _ => rfl, f__law_square := f13, fd__law_square := PySem.W.fnOf "_law_square" "_law_square" (defArgs s__law_square) (defBody s__law_square) (defScope s__law_square) .none kV13 dc13 pm13 an13 cd13 ct13, F__law_square := fun_mk (st := s__law_square) l13 c13 k13, g__law_square := PySem.W.mg_of X G a13, b__law_square := (fun_mk (st := s__law_square) l13 c13 k13).binds fun _ _ _ _ _ _ us hl => match us, hl with | [_, _], _ => rfl, f__law_each := f14, fd__law_each := PySem.W.fnOf "_law_each" "_law_each" (defArgs s__law_each) (defBody s__law_each) (defScope s__law_each) .none kV14 dc14 pm14 an14 cd14 ct14, F__law_each := fun_mk (st := s__law_each) l14 c14 k14, g__law_each := PySem.W.mg_of X G a14, b__law_each := (fun_mk (st := s__law_each) l14 c14 k14).binds fun _ _ _ _ _ _ us hl => match us, hl with | [_], _ => rfl, f__law_swept := f15, fd__law_swept := PySem.W.fnOf "_law_swept" "_law_swept" (defArgs s__law_swept) (defBody s__law_swept) (defScope s__law_swept) .none kV15 dc15 pm15 an15 cd15 ct15, F__law_swept := fun_mk (st := s__law_swept) l15 c15 k15, g__law_swept := PySem.W.mg_of X G a15, b__law_swept := (fun_mk (st := s__law_swept) l15 c15 k15).binds fun _ _ _ _ _ _ us hl => match us, hl with | [_, _], _ => rfl, f__law_shrunk := f16, fd__law_shrunk := PySem.W.fnOf "_law_shrunk" "_law_shrunk" (defArgs s__law_shrunk) (defBody s__law_shrunk) (defScope s__law_shrunk) .none kV16 dc16 pm16 an16 cd16 ct16, F__law_shrunk := fun_mk (st := s__law_shrunk) l16 c16 k16, g__law_shrunk := PySem.W.mg_of X G a16, b__law_shrunk := (fun_mk (st := s__law_shrunk) l16 c16 k16).binds fun _ _ _ _ _ _ us hl => match us, hl with | [_, _], _ => rfl, f_law := fz, fd_law := PySem.W.fnOf "law" "law" (defArgs s_law) (defBody s_law) (defScope s_law) .none kV17 dc17 pm17 an17 cd17 ct17, F_law := fun_mk (st := s_law) l17 c17 k17, g_law := PySem.W.mg_of X G a17, b_law := (fun_mk (st := s_law) l17 c17 k17).binds fun _ _ _ _ _ _ us hl => match us, hl with | [_], _ => rfl, z_int := PySem.W.mg_none_of X G z_int, z_len := PySem.W.mg_none_of X G z_len, z_max := PySem.W.mg_none_of X G z_max, z_min := PySem.W.mg_none_of X G z_min, z_range := PySem.W.mg_none_of X G z_range, z_repr := PySem.W.mg_none_of X G z_repr, z_sorted := PySem.W.mg_none_of X G z_sorted })⟩
end My
open PySem PySem.W PyProof.Rows
set_option maxHeartbeats 0 in
theorem PySem.Challenge.cw_cutwright_k31_whole_sweeps_holds : PySem.Challenge.rw_cutwright_k31_whole_sweeps.Holds := by
  w_on; o_law; k_head; (case hw => w_witness2)
  k_fill
  refine Z.walkG (l := PySem.Challenge.rw_cutwright_k31_whole_sweeps) (n := 63) (k := 6) (x := "script") (sp := fun w => My.spLaw _) rfl (by decide) rfl ⟨rfl, by decide, by decide⟩ (fun w h Y => PySem.W.kIn_of Y) ?F (fun _ _ a ns hl _ hS => ⟨a, ns, rfl, hS, hl, fun _ => rfl⟩)
  case F =>
    intro w mg fa h KX G hmg
    refine' My.all_mk KX G hmg ?a0 ?l0 ?c0 ?k0 ?a1 ?l1 ?c1 ?k1 ?a2 ?l2 ?c2 ?k2 ?a3 ?l3 ?c3 ?k3 ?a4 ?l4 ?c4 ?k4 ?a5 ?l5 ?c5 ?k5 ?a6 ?l6 ?c6 ?k6 ?a7 ?l7 ?c7 ?k7 ?a8 ?l8 ?c8 ?k8 ?a9 ?l9 ?c9 ?k9 ?a10 ?l10 ?c10 ?k10 ?a11 ?l11 ?c11 ?k11 ?a12 ?l12 ?c12 ?k12 ?a13 ?l13 ?c13 ?k13 ?a14 ?l14 ?c14 ?k14 ?a15 ?l15 ?c15 ?k15 ?a16 ?l16 ?c16 ?k16 ?a17 ?l17 ?c17 ?k17 ?z_int ?z_len ?z_max ?z_min ?z_range ?z_repr ?z_sorted
    (case a0 => k_is); (case l0 => k_is); (case c0 => k_is); (case k0 => k_is)
    (case a1 => k_is); (case l1 => k_is); (case c1 => k_is); (case k1 => k_is)
    (case a2 => k_is); (case l2 => k_is); (case c2 => k_is); (case k2 => k_is)
    (case a3 => k_is); (case l3 => k_is); (case c3 => k_is); (case k3 => k_is)
    (case a4 => k_is); (case l4 => k_is); (case c4 => k_is); (case k4 => k_is)
    (case a5 => k_is); (case l5 => k_is); (case c5 => k_is); (case k5 => k_is)
    (case a6 => k_is); (case l6 => k_is); (case c6 => k_is); (case k6 => k_is)
    (case a7 => k_is); (case l7 => k_is); (case c7 => k_is); (case k7 => k_is)
    (case a8 => k_is); (case l8 => k_is); (case c8 => k_is); (case k8 => k_is)
    (case a9 => k_is); (case l9 => k_is); (case c9 => k_is); (case k9 => k_is)
    (case a10 => k_is); (case l10 => k_is); (case c10 => k_is); (case k10 => k_is)
    (case a11 => k_is); (case l11 => k_is); (case c11 => k_is); (case k11 => k_is)
    (case a12 => k_is); (case l12 => k_is); (case c12 => k_is); (case k12 => k_is)
    (case a13 => k_is); (case l13 => k_is); (case c13 => k_is); (case k13 => k_is)
    (case a14 => k_is); (case l14 => k_is); (case c14 => k_is); (case k14 => k_is)
    (case a15 => k_is); (case l15 => k_is); (case c15 => k_is); (case k15 => k_is)
    (case a16 => k_is); (case l16 => k_is); (case c16 => k_is); (case k16 => k_is)
    (case a17 => k_is); (case l17 => k_is); (case c17 => k_is); (case k17 => k_is)
    (case z_int => k_is)
    (case z_len => k_is)
    (case z_max => k_is)
    (case z_min => k_is)
    (case z_range => k_is)
    (case z_repr => k_is)
    (case z_sorted => k_is)

