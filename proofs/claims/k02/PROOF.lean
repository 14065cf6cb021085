import PyProof.Rows.All
import HandS.ForMost
import HandS.Wide
import KE.SortData
import KE.DataMinMax
import HandS.IsInst
import PySem.Challenge.RW_cutwright_k02_placings
set_option Elab.async false
set_option linter.all false
set_option maxRecDepth 100000
set_option Elab.async false
set_option linter.all false
set_option maxRecDepth 100000
namespace Z
open PySem PySem.Spec PyProof.Rows L2

abbrev Fg := PySem.W.Frag
def keyD : Key → PyData
  | .inl i => .int i
  | .inr s => .str s

mutual
inductive Rep (K : Fg) (F : Hp) : V → PyData → Prop
  | non : Rep K F .non .none
  | bl (b : Bool) : Rep K F (.bl b) (.bool b)
  | int (i : Int) : Rep K F (.int i) (.int i)
  | str (x : Str) : Rep K F (.str x) (.str x)
  | lst {a : Addr} {xs : List V} {ds : List PyData} : F a = some (.lst xs) → RepAll K F xs ds → Rep K F (.ref a) (.list ds)
  | tup {a : Addr} {xs : List V} {ds : List PyData} : SqT K F a xs → RepAll K F xs ds → Rep K F (.ref a) (.tuple ds)
  | dK {a : Addr} {kvs : List (Key × V)} {ds : List PyData} : Rd F a (.dK kvs) → RepAll K F (kvs.map (·.2)) ds → Rep K F (.ref a) (.dict ((kvs.map fun p => keyD p.1).zip ds))
  | dT {a : Addr} {kvs : List (List Key × V)} {ds : List PyData} : Rd F a (.dT kvs) → RepAll K F (kvs.map (·.2)) ds → Rep K F (.ref a) (.dict ((kvs.map fun p => PyData.tuple (p.1.map keyD)).zip ds))
inductive RepAll (K : Fg) (F : Hp) : List V → List PyData → Prop
  | nil : RepAll K F [] []
  | cons {v : V} {vs : List V} {d : PyData} {ds : List PyData} : Rep K F v d → RepAll K F vs ds → RepAll K F (v :: vs) (d :: ds)
end

theorem same_rd {F F' : Hp} (s : Same F F') {a : Addr} {u : HO} (h : Rd F a u) : Rd F' a u := by
  rcases h with h | ⟨o, h⟩
  · exact .inl (s _ _ h)
  · exact .inr ⟨o, s _ _ h⟩
theorem same_sqT {K : Fg} {F F' : Hp} (s : Same F F') {a : Addr} {xs : List V} (h : SqT K F a xs) : SqT K F' a xs := by
  rcases h with h | h
  · exact .inl (same_rd s h)
  · exact .inr h
mutual
theorem Rep.mono {K : Fg} {F F' : Hp} (s : Same F F') : ∀ {v : V} {d : PyData}, Rep K F v d → Rep K F' v d
  | _, _, .non => .non
  | _, _, .bl b => .bl b
  | _, _, .int i => .int i
  | _, _, .str x => .str x
  | _, _, .lst h r => .lst (s _ _ h) (RepAll.mono s r)
  | _, _, .tup h r => .tup (same_sqT s h) (RepAll.mono s r)
  | _, _, .dK h r => .dK (same_rd s h) (RepAll.mono s r)
  | _, _, .dT h r => .dT (same_rd s h) (RepAll.mono s r)
theorem RepAll.mono {K : Fg} {F F' : Hp} (s : Same F F') : ∀ {vs : List V} {ds : List PyData}, RepAll K F vs ds → RepAll K F' vs ds
  | _, _, .nil => .nil
  | _, _, .cons h r => .cons (Rep.mono s h) (RepAll.mono s r)
end
theorem RepAll.length {K : Fg} {F : Hp} : ∀ {vs : List V} {ds : List PyData}, RepAll K F vs ds → vs.length = ds.length
  | _, _, .nil => rfl
  | _, _, .cons _ r => congrArg (· + 1) (RepAll.length r)
theorem RepAll.app {K : Fg} {F : Hp} : ∀ {vs ws : List V} {ds es : List PyData}, RepAll K F vs ds → RepAll K F ws es → RepAll K F (vs ++ ws) (ds ++ es)
  | _, _, _, _, .nil, q => q
  | _, _, _, _, .cons h r, q => .cons h (RepAll.app r q)
theorem RepAll.get {K : Fg} {F : Hp} : ∀ {vs : List V} {ds : List PyData} {i : Nat} {d : PyData}, RepAll K F vs ds → ds[i]? = some d → ∃ v, vs[i]? = some v ∧ Rep K F v d
  | _, _, _, _, .nil, e => by simp at e
  | _, _, 0, _, .cons h _, e => ⟨_, rfl, by simp at e; exact e ▸ h⟩
  | _, _, i + 1, _, .cons _ r, e => by
    obtain ⟨v, h1, h2⟩ := RepAll.get (i := i) r (by simpa using e)
    exact ⟨v, by simpa using h1, h2⟩
theorem RepAll.getv {K : Fg} {F : Hp} : ∀ {vs : List V} {ds : List PyData} {i : Nat} {v : V}, RepAll K F vs ds → vs[i]? = some v → ∃ d, ds[i]? = some d ∧ Rep K F v d
  | _, _, _, _, .nil, e => by simp at e
  | _, _, 0, _, .cons h _, e => ⟨_, rfl, by simp at e; exact e ▸ h⟩
  | _, _, i + 1, _, .cons _ r, e => by
    obtain ⟨v, h1, h2⟩ := RepAll.getv (i := i) r (by simpa using e)
    exact ⟨v, by simpa using h1, h2⟩
theorem RepAll.set {K : Fg} {F : Hp} {v : V} {d : PyData} (h : Rep K F v d) : ∀ {vs : List V} {ds : List PyData} {i : Nat}, RepAll K F vs ds → RepAll K F (vs.set i v) (ds.set i d)
  | _, _, _, .nil => .nil
  | _, _, 0, .cons _ r => .cons h r
  | _, _, i + 1, .cons q r => .cons q (RepAll.set h r)
theorem RepAll.take {K : Fg} {F : Hp} : ∀ {vs : List V} {ds : List PyData} (n : Nat), RepAll K F vs ds → RepAll K F (vs.take n) (ds.take n)
  | _, _, 0, _ => .nil
  | _, _, _ + 1, .nil => .nil
  | _, _, n + 1, .cons h r => .cons h (RepAll.take n r)
theorem RepAll.drop {K : Fg} {F : Hp} : ∀ {vs : List V} {ds : List PyData} (n : Nat), RepAll K F vs ds → RepAll K F (vs.drop n) (ds.drop n)
  | _, _, 0, r => r
  | _, _, _ + 1, .nil => .nil
  | _, _, n + 1, .cons _ r => RepAll.drop n r

/-! ### what a value of Lean stands for -/
structure Enc (τ : Type) where
  enc : τ → PyData
  inj : ∀ a b, enc a = enc b → a = b
def eI : Enc Int := ⟨.int, fun _ _ h => by injection h⟩
def eB : Enc Bool := ⟨.bool, fun _ _ h => by injection h⟩
def eS : Enc Str := ⟨.str, fun _ _ h => by injection h⟩
def eN : Enc Unit := ⟨fun _ => .none, fun _ _ _ => rfl⟩
def eD : Enc PyData := ⟨id, fun _ _ h => h⟩
theorem map_inj {α β : Type} {f : α → β} (h : ∀ a b, f a = f b → a = b) : ∀ {xs ys : List α}, xs.map f = ys.map f → xs = ys
  | [], [], _ => rfl
  | [], _ :: _, e => by simp at e
  | _ :: _, [], e => by simp at e
  | x :: xs, y :: ys, e => by
    simp only [List.map_cons, List.cons.injEq] at e
    rw [h _ _ e.1, map_inj h e.2]
def eL {τ : Type} (E : Enc τ) : Enc (List τ) := ⟨fun xs => .list (xs.map E.enc), fun _ _ h => map_inj E.inj (by injection h)⟩
def eV {τ : Type} (E : Enc τ) : Enc (List τ) := ⟨fun xs => .tuple (xs.map E.enc), fun _ _ h => map_inj E.inj (by injection h)⟩
def eT2 {α β : Type} (A : Enc α) (B : Enc β) : Enc (α × β) := ⟨fun p => .tuple [A.enc p.1, B.enc p.2], fun a b h => by
  injection h with h
  simp only [List.cons.injEq, and_true] at h
  exact Prod.ext (A.inj _ _ h.1) (B.inj _ _ h.2)⟩
def eT3 {α β γ : Type} (A : Enc α) (B : Enc β) (G : Enc γ) : Enc (α × β × γ) := ⟨fun p => .tuple [A.enc p.1, B.enc p.2.1, G.enc p.2.2], fun a b h => by
  injection h with h
  simp only [List.cons.injEq, and_true] at h
  exact Prod.ext (A.inj _ _ h.1) (Prod.ext (B.inj _ _ h.2.1) (G.inj _ _ h.2.2))⟩
def eT4 {α β γ δ : Type} (A : Enc α) (B : Enc β) (G : Enc γ) (D : Enc δ) : Enc (α × β × γ × δ) := ⟨fun p => .tuple [A.enc p.1, B.enc p.2.1, G.enc p.2.2.1, D.enc p.2.2.2], fun a b h => by
  injection h with h
  simp only [List.cons.injEq, and_true] at h
  exact Prod.ext (A.inj _ _ h.1) (Prod.ext (B.inj _ _ h.2.1) (Prod.ext (G.inj _ _ h.2.2.1) (D.inj _ _ h.2.2.2)))⟩
def eT5 {α β γ δ ε : Type} (A : Enc α) (B : Enc β) (G : Enc γ) (D : Enc δ) (E : Enc ε) : Enc (α × β × γ × δ × ε) := ⟨fun p => .tuple [A.enc p.1, B.enc p.2.1, G.enc p.2.2.1, D.enc p.2.2.2.1, E.enc p.2.2.2.2], fun a b h => by
  injection h with h
  simp only [List.cons.injEq, and_true] at h
  exact Prod.ext (A.inj _ _ h.1) (Prod.ext (B.inj _ _ h.2.1) (Prod.ext (G.inj _ _ h.2.2.1) (Prod.ext (D.inj _ _ h.2.2.2.1) (E.inj _ _ h.2.2.2.2))))⟩
def eO {τ : Type} (E : Enc τ) (hn : ∀ a, E.enc a ≠ .none) : Enc (Option τ) := ⟨fun o => match o with | none => .none | some a => E.enc a, fun a b h => by
  cases a <;> cases b
  · rfl
  · exact absurd h.symm (hn _)
  · exact absurd h (hn _)
  · exact congrArg some (E.inj _ _ h)⟩

/-! ### how a slot holds a value: shared data, or objects of its own -/
def grow (F H : Hp) (fp : List Addr) : Hp := fun a => if a ∈ fp then H a else F a
structure Stor (τ : Type) where
  rel : Fg → Hp → Hp → List Addr → V → τ → Prop
  monoF : ∀ {K F F' H fp v x}, Same F F' → rel K F H fp v x → rel K F' H fp v x
  frame : ∀ {K F H H' fp v x}, (∀ a ∈ fp, H' a = H a) → rel K F H fp v x → rel K F H' fp v x
/-- it may be made shared data -/
structure Frz {τ : Type} (S : Stor τ) (E : Enc τ) : Prop where
  frz : ∀ {K F H fp v x}, (∀ a ∈ fp, F a = none) → S.rel K F H fp v x → Rep K (grow F H fp) v (E.enc x)
/-- it owns nothing: it may be told twice -/
structure Cp {τ : Type} (S : Stor τ) : Prop where
  nil : ∀ {K F H fp v x}, S.rel K F H fp v x → fp = []
theorem grow_nil {F H : Hp} : grow F H [] = F := by funext a; simp [grow]
theorem same_grow {F H : Hp} {fp : List Addr} (h : ∀ a ∈ fp, F a = none) : Same F (grow F H fp) := fun a o e => by
  unfold grow
  by_cases m : a ∈ fp
  · rw [h a m] at e; cases e
  · rw [if_neg m]; exact e
theorem grow_sub {F H : Hp} {fp fq : List Addr} (h : ∀ a ∈ fq, F a = none) (s : ∀ a ∈ fp, a ∈ fq) : Same (grow F H fp) (grow F H fq) := fun a o e => by
  unfold grow at e ⊢
  by_cases m : a ∈ fp
  · rw [if_pos m] at e; rw [if_pos (s a m)]; exact e
  · rw [if_neg m] at e
    by_cases m' : a ∈ fq
    · rw [h a m'] at e; cases e
    · rw [if_neg m']; exact e
def it {τ : Type} (E : Enc τ) : Stor τ where
  rel := fun K F _ fp v x => fp = [] ∧ Rep K F v (E.enc x)
  monoF := fun s h => ⟨h.1, h.2.mono s⟩
  frame := fun _ h => h
theorem fz_it {τ : Type} {E : Enc τ} : Frz (it E) E := ⟨fun _ h => by obtain ⟨rfl, r⟩ := h; rw [grow_nil]; exact r⟩
theorem cp_it {τ : Type} {E : Enc τ} : Cp (it E) := ⟨fun h => h.1⟩
/-- a list of ints that stands for good (the script) -/
def scr : Stor (List Int) where
  rel := fun K F _ fp v xs => fp = [] ∧ ∃ a, v = .ref a ∧ SqL K F a (xs.map V.int)
  monoF := fun s h => by obtain ⟨e, a, e2, q⟩ := h; exact ⟨e, a, e2, s.seq q⟩
  frame := fun _ h => h
theorem cp_scr : Cp scr := ⟨fun h => h.1⟩
inductive RelAll {τ : Type} (R : List Addr → V → τ → Prop) : List Addr → List V → List τ → Prop
  | nil : RelAll R [] [] []
  | cons {fp fps v vs x xs} : R fp v x → RelAll R fps vs xs → RelAll R (fp ++ fps) (v :: vs) (x :: xs)
theorem RelAll.imp {τ : Type} {R R' : List Addr → V → τ → Prop} : ∀ {fp : List Addr} {vs : List V} {xs : List τ}, (∀ fq v x, (∀ a ∈ fq, a ∈ fp) → R fq v x → R' fq v x) → RelAll R fp vs xs → RelAll R' fp vs xs
  | _, _, _, _, .nil => .nil
  | _, _, _, f, .cons h r => .cons (f _ _ _ (fun a m => List.mem_append_left _ m) h) (RelAll.imp (fun fq v x s q => f fq v x (fun a m => List.mem_append_right _ (s a m)) q) r)
theorem RelAll.rep {τ : Type} {E : Enc τ} {K : Fg} {F : Hp} {R : List Addr → V → τ → Prop} : ∀ {fp : List Addr} {vs : List V} {xs : List τ}, (∀ fq v x, (∀ a ∈ fq, a ∈ fp) → R fq v x → Rep K F v (E.enc x)) → RelAll R fp vs xs → RepAll K F vs (xs.map E.enc)
  | _, _, _, _, .nil => .nil
  | _, _, _, f, .cons h r => .cons (f _ _ _ (fun a m => List.mem_append_left _ m) h) (RelAll.rep (fun fq v x s q => f fq v x (fun a m => List.mem_append_right _ (s a m)) q) r)
def ls {τ : Type} (S : Stor τ) : Stor (List τ) where
  rel := fun K F H fp v xs => ∃ p vs fps, v = .ref p ∧ H p = some (.lst vs) ∧ RelAll (S.rel K F H) fps vs xs ∧ fp = p :: fps
  monoF := fun s h => by
    obtain ⟨p, vs, fps, rfl, hp, r, rfl⟩ := h
    exact ⟨p, vs, fps, rfl, hp, r.imp fun _ _ _ _ q => S.monoF s q, rfl⟩
  frame := fun f h => by
    obtain ⟨p, vs, fps, rfl, hp, r, rfl⟩ := h
    exact ⟨p, vs, fps, rfl, by rw [f p List.mem_cons_self]; exact hp, r.imp fun fq _ _ s q => S.frame (fun a m => f a (List.mem_cons_of_mem _ (s a m))) q, rfl⟩
theorem fz_ls {τ : Type} {S : Stor τ} {E : Enc τ} (fz : Frz S E) : Frz (ls S) (eL E) := ⟨fun n h => by
  obtain ⟨p, vs, fps, rfl, hp, r, rfl⟩ := h
  refine .lst ?_ (r.rep fun fq v x s q => ?_)
  · show (if p ∈ p :: fps then _ else _) = _
    rw [if_pos List.mem_cons_self]; exact hp
  · exact (fz.frz (fun a m => n a (List.mem_cons_of_mem _ (s a m))) q).mono (grow_sub n fun a m => List.mem_cons_of_mem _ (s a m))⟩

inductive Slot : Type 1
  | un
  | st (w : Option V) (τ : Type) (S : Stor τ) (x : τ)
  | lk (τ : Type) (S : Stor τ) (x : τ)
abbrev Env := List Slot
abbrev Slot.sh {τ : Type} (E : Enc τ) (x : τ) : Slot := .st none τ (it E) x
abbrev Slot.ow {τ : Type} (S : Stor τ) (x : τ) : Slot := .st none τ S x

structure Ck where
  K : Fg
  B : Hp
  F0 : Hp
  He : Hp
  io : List Addr
def SlotOk (C : Ck) (F H : Hp) (o : Option V) : Slot → List Addr → Prop
  | .un, fp => fp = []
  | .st w _ S x, fp => ∃ v, o = some v ∧ S.rel C.K F H fp v x ∧ (match w with | none => ∀ a ∈ fp, C.He a = none | some v0 => v = v0 ∧ ∀ a ∈ fp, C.He a = none ∨ a ∈ C.io)
  | .lk _ S x, fp => fp = [] ∧ ∃ v fq, o = some v ∧ S.rel C.K F H fq v x ∧ ∀ a ∈ fq, C.B a ≠ none
theorem SlotOk.go {C : Ck} {F F' H H' : Hp} {o : Option V} {s : Slot} {fp : List Addr} (sF : Same F F') (hB : ∀ a, C.B a ≠ none → H' a = H a) (h : ∀ a ∈ fp, H' a = H a) (k : SlotOk C F H o s fp) : SlotOk C F' H' o s fp := by
  cases s with
  | un => exact k
  | st w τ S x => obtain ⟨v, e, r, q⟩ := k; exact ⟨v, e, S.monoF sF (S.frame h r), q⟩
  | lk τ S x => obtain ⟨e, v, fq, e2, r, q⟩ := k; exact ⟨e, v, fq, e2, S.monoF sF (S.frame (fun a m => hB a (q a m)) r), q⟩
/-- the footprints of the slots -/
structure Fps (C : Ck) (F H : Hp) (σ : List (Option V)) (env : Env) (fp : Nat → List Addr) : Prop where
  ok : ∀ i s, env[i]? = some s → SlotOk C F H (σ[i]?.join) s (fp i)
  own : ∀ i, i < env.length → ∀ a ∈ fp i, C.B a = none ∧ F a = none ∧ H a ≠ none
  sep : ∀ i j, i < env.length → j < env.length → ∀ a, a ∈ fp i → a ∈ fp j → i = j
  nd : ∀ i, i < env.length → (fp i).Nodup
structure ER (C : Ck) (F H : Hp) (σ : List (Option V)) (env : Env) : Prop where
  sB : Same C.B H
  sF : Same F H
  gr : ∀ a, F a ≠ none → C.F0 a ≠ none ∨ C.He a = none
  up : ∀ a, C.He a ≠ none → H a ≠ none
  len : σ.length = env.length
  sl : ∃ fp, Fps C F H σ env fp

section
variable {C : Ck} {F F' H H' : Hp} {σ : List (Option V)} {env : Env} {o : Option V} {s : Slot} {τ : Type} {S : Stor τ} {E : Enc τ} {x : τ} {v : V} {w : Option V} {i : Nat} {p : Addr} {u : HO}
theorem same_some {H H' : Hp} (s : Same H H') {a : Addr} (h : H a ≠ none) : H' a ≠ none := by
  cases e : H a with
  | none => exact absurd e h
  | some o => rw [s a o e]; exact fun z => by cases z
theorem same_eq {H H' : Hp} (s : Same H H') {a : Addr} (h : H a ≠ none) : H' a = H a := by
  cases e : H a with
  | none => exact absurd e h
  | some o => exact s a o e
theorem ER.look (h : ER C F H σ env) (e : env[i]? = some (.st w τ S x)) : ∃ v fp, σ[i]? = some (some v) ∧ S.rel C.K F H fp v x := by
  obtain ⟨fp, q⟩ := h.sl
  obtain ⟨v, e1, r, _⟩ := q.ok i _ e
  refine ⟨v, fp i, ?_, r⟩
  cases z : σ[i]? with
  | none => rw [z] at e1; cases e1
  | some o => rw [z] at e1; exact congrArg some e1
theorem ER.lookK (h : ER C F H σ env) (e : env[i]? = some (.lk τ S x)) : ∃ v fp, σ[i]? = some (some v) ∧ S.rel C.K F H fp v x := by
  obtain ⟨fp, q⟩ := h.sl
  obtain ⟨_, v, fq, e1, r, _⟩ := q.ok i _ e
  refine ⟨v, fq, ?_, r⟩
  cases z : σ[i]? with
  | none => rw [z] at e1; cases e1
  | some o => rw [z] at e1; exact congrArg some e1
theorem ER.rep (h : ER C F H σ env) (e : env[i]? = some (.st w τ (it E) x)) : ∃ v, σ[i]? = some (some v) ∧ Rep C.K F v (E.enc x) := by
  obtain ⟨v, fp, e1, r⟩ := h.look e
  exact ⟨v, e1, r.2⟩
theorem Fps.push {fp : Nat → List Addr} (q : Fps C F H σ env fp) {fq : List Addr} (ok : SlotOk C F H o s fq) (ow : ∀ a ∈ fq, C.B a = none ∧ F a = none ∧ H a ≠ none) (nd : fq.Nodup) (df : ∀ i, i < env.length → ∀ a ∈ fp i, a ∉ fq) :
    Fps C F H (o :: σ) (s :: env) (fun | 0 => fq | i + 1 => fp i) := by
  refine ⟨?_, ?_, ?_, ?_⟩
  · intro i s' e
    cases i with
    | zero => simp at e; subst e; exact ok
    | succ i => exact q.ok i s' (by simpa using e)
  · intro i hi a ha
    cases i with
    | zero => exact ow a ha
    | succ i => exact q.own i (by simpa using hi) a ha
  · intro i j hi hj a ha hb
    cases i with
    | zero => cases j with
      | zero => rfl
      | succ j => exact absurd ha (df j (by simpa using hj) a hb)
    | succ i => cases j with
      | zero => exact absurd hb (df i (by simpa using hi) a ha)
      | succ j => exact congrArg (· + 1) (q.sep i j (by simpa using hi) (by simpa using hj) a ha hb)
  · intro i hi
    cases i with
    | zero => exact nd
    | succ i => exact q.nd i (by simpa using hi)
theorem ER.push0 (h : ER C F H σ env) (ok : SlotOk C F H o s []) : ER C F H (o :: σ) (s :: env) := by
  obtain ⟨fp, q⟩ := h.sl
  exact ⟨h.sB, h.sF, h.gr, h.up, by simp [h.len], _, q.push ok (fun _ m => nomatch m) List.nodup_nil fun _ _ _ _ m => nomatch m⟩
theorem ER.pushSh (h : ER C F H σ env) (r : Rep C.K F v (E.enc x)) : ER C F H (some v :: σ) (.st none τ (it E) x :: env) :=
  h.push0 ⟨v, rfl, ⟨rfl, r⟩, fun _ m => nomatch m⟩
theorem ER.pushUn (h : ER C F H σ env) : ER C F H (o :: σ) (.un :: env) := h.push0 rfl
theorem ER.pop (h : ER C F H (o :: σ) (s :: env)) : ER C F H σ env := by
  obtain ⟨fp, q⟩ := h.sl
  exact ⟨h.sB, h.sF, h.gr, h.up, by simpa using h.len, fun i => fp (i + 1), fun i s e => q.ok (i + 1) s (by simpa using e), fun i hi => q.own (i + 1) (by simpa using hi),
    fun i j hi hj a ha hb => Nat.succ.inj (q.sep (i + 1) (j + 1) (by simpa using hi) (by simpa using hj) a ha hb), fun i hi => q.nd (i + 1) (by simpa using hi)⟩
theorem ER.popN : ∀ {vs : List (Option V)} {es : Env}, vs.length = es.length → ER C F H (vs ++ σ) (es ++ env) → ER C F H σ env
  | [], [], _, h => h
  | [], _ :: _, e, _ => by simp at e
  | _ :: _, [], e, _ => by simp at e
  | _ :: vs, _ :: es, e, h => ER.popN (vs := vs) (es := es) (by simpa using e) h.pop
theorem Fps.grow {fp : Nat → List Addr} (h : ER C F H σ env) (q : Fps C F H σ env fp) (sH : Same H H') (sF : Same F F') (n : ∀ a, F' a ≠ none → F a ≠ none ∨ H a = none) : Fps C F' H' σ env fp := by
  refine ⟨fun i s e => ?_, fun i hi a ha => ?_, q.sep, q.nd⟩
  · refine (q.ok i s e).go sF (fun a m => same_eq sH (same_some h.sB m)) fun a ha => same_eq sH ?_
    exact (q.own i (by obtain ⟨hi, _⟩ := List.getElem?_eq_some_iff.mp e; exact hi) a ha).2.2
  · obtain ⟨b, f, c⟩ := q.own i hi a ha
    refine ⟨b, ?_, same_some sH c⟩
    cases e : F' a with
    | none => rfl
    | some o =>
      rcases n a (by rw [e]; exact fun z => by cases z) with z | z
      · exact absurd f z
      · exact absurd z c
/-- the heap grows by objects that no slot holds; what is frozen may grow by new ones -/
theorem ER.grow (h : ER C F H σ env) (sH : Same H H') (sF : Same F F') (sF' : Same F' H') (n : ∀ a, F' a ≠ none → F a ≠ none ∨ H a = none) : ER C F' H' σ env := by
  obtain ⟨fp, q⟩ := h.sl
  refine ⟨fun a o e => sH a o (h.sB a o e), sF', fun a m => ?_, fun a m => same_some sH (h.up a m), h.len, fp, q.grow h sH sF n⟩
  rcases n a m with z | z
  · exact h.gr a z
  · refine .inr ?_
    cases e : C.He a with
    | none => rfl
    | some o => exact absurd z (h.up a (by rw [e]; exact fun z => by cases z))
theorem same_new (n : H p = none) : Same H (upd H p u) := fun b o e => by rw [upd_ne (ne_of_none e n)]; exact e
theorem ER.fnone (h : ER C F H σ env) (n : H p = none) : F p = none := by
  cases e : F p with
  | none => rfl
  | some o => rw [h.sF p o e] at n; cases n
theorem ER.bnone (h : ER C F H σ env) (n : H p = none) : C.B p = none := by
  cases e : C.B p with
  | none => rfl
  | some o => rw [h.sB p o e] at n; cases n
theorem ER.hnone (h : ER C F H σ env) (n : H p = none) : C.He p = none := by
  cases e : C.He p with
  | none => rfl
  | some o => exact absurd n (h.up p (by rw [e]; exact fun z => by cases z))
theorem ER.newF (h : ER C F H σ env) (n : H p = none) : ER C (upd F p u) (upd H p u) σ env := by
  refine h.grow (same_new n) (same_new (h.fnone n)) (fun a o e => ?_) fun a m => ?_
  · by_cases z : a = p
    · subst z; rw [upd_same] at e ⊢; exact e
    · rw [upd_ne z] at e ⊢; exact h.sF a o e
  · by_cases z : a = p
    · subst z; exact .inr n
    · rw [upd_ne z] at m; exact .inl m
theorem ER.newH (h : ER C F H σ env) (n : H p = none) : ER C F (upd H p u) σ env :=
  h.grow (same_new n) (fun _ _ e => e) (fun a o e => same_new n a o (h.sF a o e)) fun a m => .inl m
/-- a new object of one's own -/
theorem ER.newOw (h : ER C F H σ env) (n : H p = none) (r : S.rel C.K F (upd H p u) [p] v x) : ER C F (upd H p u) (some v :: σ) (.st none τ S x :: env) := by
  have h' := h.newH (u := u) n
  obtain ⟨fp, q⟩ := h.sl
  have q' := q.grow h (same_new (u := u) n) (fun _ _ e => e) fun a m => .inl m
  refine ⟨h'.sB, h'.sF, h'.gr, h'.up, by simp [h'.len], _, q'.push (fq := [p]) ⟨v, rfl, r, fun a m => ?_⟩ (fun a m => ?_) (by simp) fun i hi a ha m => ?_⟩
  · simp at m; subst m; exact h.hnone n
  · simp at m; subst m; exact ⟨h.bnone n, h.fnone n, by rw [upd_same]; exact fun z => by cases z⟩
  · simp at m; subst m; exact (q.own i hi a ha).2.2 n
/-- a slot's objects are changed by themselves -/
theorem ER.mut (h : ER C F H σ env) (e : env[i]? = some (.st w τ S x)) : ∃ v fp, σ[i]? = some (some v) ∧ S.rel C.K F H fp v x ∧ fp.Nodup ∧ (∀ a ∈ fp, C.B a = none ∧ F a = none ∧ H a ≠ none) ∧
    ∀ (τ' : Type) (S' : Stor τ') (x' : τ') (H' : Hp) (fp' : List Addr), (∀ a, a ∉ fp → H a ≠ none → H' a = H a) → (∀ a, H a ≠ none → H' a ≠ none) → S'.rel C.K F H' fp' v x' → fp'.Nodup → (∀ a ∈ fp', H' a ≠ none ∧ (a ∈ fp ∨ H a = none)) → ER C F H' σ (env.set i (.st w τ' S' x')) := by
  obtain ⟨fp, q⟩ := h.sl
  obtain ⟨hi, _⟩ := List.getElem?_eq_some_iff.mp e
  obtain ⟨v, e1, r, k⟩ := q.ok i _ e
  have e1' : σ[i]? = some (some v) := by
    cases z : σ[i]? with
    | none => rw [z] at e1; cases e1
    | some o => rw [z] at e1; exact congrArg some e1
  refine ⟨v, fp i, e1', r, q.nd i hi, q.own i hi, fun τ' S' x' H' fp' hk hs r' nd' sub => ?_⟩
  have bne : ∀ a, C.B a ≠ none → a ∉ fp i := fun a m z => m (q.own i hi a z).1
  refine ⟨fun a o m => ?_, fun a o m => ?_, h.gr, fun a m => hs a (h.up a m), by simp [h.len], fun j => if j = i then fp' else fp j, fun j s' ej => ?_, fun j hj a ha => ?_, fun j l hj hl a ha hb => ?_, fun j hj => ?_⟩
  · have m' : C.B a ≠ none := by rw [m]; exact fun z => by cases z
    rw [hk a (bne a m') (same_some h.sB m')]; exact h.sB a o m
  · have m' : F a ≠ none := by rw [m]; exact fun z => by cases z
    rw [hk a (fun z => m' (q.own i hi a z).2.1) (same_some h.sF m')]; exact h.sF a o m
  · by_cases z : j = i
    · subst z
      rw [List.getElem?_set_self hi] at ej
      cases ej
      refine ⟨v, e1, ?_, ?_⟩
      · simpa using r'
      · simp only [if_pos]
        cases w with
        | none =>
          intro a ha
          rcases (sub a ha).2 with m | m
          · exact k a m
          · exact h.hnone m
        | some v0 =>
          refine ⟨k.1, fun a ha => ?_⟩
          rcases (sub a ha).2 with m | m
          · exact k.2 a m
          · exact .inl (h.hnone m)
    · rw [List.getElem?_set_ne (fun y => z y.symm)] at ej
      have hj : j < env.length := (List.getElem?_eq_some_iff.mp ej).1
      simp only [if_neg z]
      refine (q.ok j s' ej).go (fun _ _ y => y) (fun a m => hk a (bne a m) (same_some h.sB m)) fun a ha => ?_
      exact hk a (fun y => z (q.sep j i hj hi a ha y)) (q.own j hj a ha).2.2
  · have hj' : j < env.length := by simpa using hj
    by_cases z : j = i
    · subst z
      simp only [if_pos] at ha
      obtain ⟨m1, m⟩ := sub a ha
      rcases m with m | m
      · exact ⟨(q.own j hi a m).1, (q.own j hi a m).2.1, m1⟩
      · exact ⟨h.bnone m, h.fnone m, m1⟩
    · simp only [if_neg z] at ha
      obtain ⟨b, f, c⟩ := q.own j hj' a ha
      exact ⟨b, f, hs a c⟩
  · have hj' : j < env.length := by simpa using hj
    have hl' : l < env.length := by simpa using hl
    by_cases zj : j = i
    · by_cases zl : l = i
      · rw [zj, zl]
      · simp only [if_pos zj] at ha
        simp only [if_neg zl] at hb
        rcases (sub a ha).2 with m | m
        · rw [zj]; exact q.sep i l hi hl' a m hb
        · exact absurd m (q.own l hl' a hb).2.2
    · simp only [if_neg zj] at ha
      by_cases zl : l = i
      · simp only [if_pos zl] at hb
        rcases (sub a hb).2 with m | m
        · rw [zl]; exact q.sep j i hj' hi a ha m
        · exact absurd m (q.own j hj' a ha).2.2
      · simp only [if_neg zl] at hb
        exact q.sep j l hj' hl' a ha hb
  · have hj' : j < env.length := by simpa using hj
    by_cases z : j = i
    · simp only [if_pos z]; exact nd'
    · simp only [if_neg z]; exact q.nd j hj'
/-- what a slot owns is frozen: from here on it is shared -/
theorem ER.freeze (h : ER C F H σ env) (fz : Frz S E) (e : env[i]? = some (.st none τ S x)) : ∃ F', Same F F' ∧ ER C F' H σ (env.set i (.st none τ (it E) x)) := by
  obtain ⟨fp, q⟩ := h.sl
  obtain ⟨hi, _⟩ := List.getElem?_eq_some_iff.mp e
  obtain ⟨v, e1, r, k⟩ := q.ok i _ e
  have fn : ∀ a ∈ fp i, F a = none := fun a m => (q.own i hi a m).2.1
  have sF : Same F (Z.grow F H (fp i)) := same_grow fn
  have bne : ∀ a, C.B a ≠ none → a ∉ fp i := fun a m z => m (q.own i hi a z).1
  refine ⟨Z.grow F H (fp i), sF, h.sB, fun a o m => ?_, fun a m => ?_, h.up, by simp [h.len], fun j => if j = i then [] else fp j, fun j s' ej => ?_, fun j hj a ha => ?_, fun j l hj hl a ha hb => ?_, fun j hj => ?_⟩
  · unfold Z.grow at m
    by_cases z : a ∈ fp i
    · rw [if_pos z] at m; exact m
    · rw [if_neg z] at m; exact h.sF a o m
  · unfold Z.grow at m
    by_cases z : a ∈ fp i
    · exact .inr (k a z)
    · rw [if_neg z] at m; exact h.gr a m
  · by_cases z : j = i
    · subst z
      rw [List.getElem?_set_self hi] at ej
      cases ej
      simp only [if_pos]
      exact ⟨v, e1, ⟨rfl, fz.frz fn r⟩, fun _ m => nomatch m⟩
    · rw [List.getElem?_set_ne (fun y => z y.symm)] at ej
      simp only [if_neg z]
      exact (q.ok j s' ej).go sF (fun a m => rfl) fun a ha => rfl
  · have hj' : j < env.length := by simpa using hj
    by_cases z : j = i
    · simp [if_pos z] at ha
    · simp only [if_neg z] at ha
      obtain ⟨b, f, c⟩ := q.own j hj' a ha
      refine ⟨b, ?_, c⟩
      unfold Z.grow
      rw [if_neg (fun y => z (q.sep j i hj' hi a ha y))]; exact f
  · have hj' : j < env.length := by simpa using hj
    have hl' : l < env.length := by simpa using hl
    by_cases zj : j = i
    · simp [if_pos zj] at ha
    · by_cases zl : l = i
      · simp [if_pos zl] at hb
      · simp only [if_neg zj] at ha
        simp only [if_neg zl] at hb
        exact q.sep j l hj' hl' a ha hb
  · have hj' : j < env.length := by simpa using hj
    by_cases z : j = i
    · simp [if_pos z]
    · simp only [if_neg z]; exact q.nd j hj'
/-- slots renamed: f tells where each new slot stood; each is taken once or owns nothing -/
theorem ER.perm {σ' : List (Option V)} {env' : Env} (h : ER C F H σ env) (len : σ'.length = env'.length) (f : Nat → Nat)
    (hf : ∀ j s', env'[j]? = some s' → s' = .un ∨ (env[f j]? = some s' ∧ σ'[j]?.join = σ[f j]?.join ∧ ∀ l s'', env'[l]? = some s'' → s'' ≠ .un → f l = f j → l = j)) : ER C F H σ' env' := by
  classical
  obtain ⟨fp, q⟩ := h.sl
  refine ⟨h.sB, h.sF, h.gr, h.up, len, fun j => match env'[j]? with | some .un => [] | some _ => fp (f j) | none => [], fun j s' ej => ?_, fun j hj a ha => ?_, fun j l hj hl a ha hb => ?_, fun j hj => ?_⟩
  · simp only [ej]
    rcases hf j s' ej with rfl | ⟨e, eo, _⟩
    · exact rfl
    · have := q.ok (f j) s' e
      rw [← eo] at this
      cases s' with
      | un => exact rfl
      | st _ _ _ _ => exact this
      | lk _ _ _ => exact this
  · cases ej : env'[j]? with
    | none => rw [ej] at ha; cases ha
    | some s' =>
      rcases hf j s' ej with rfl | ⟨e, eo, _⟩
      · rw [ej] at ha; cases ha
      · have ha' : a ∈ fp (f j) := by
          rw [ej] at ha
          cases s' with
          | un => cases ha
          | st _ _ _ _ => exact ha
          | lk _ _ _ => exact ha
        exact q.own (f j) (List.getElem?_eq_some_iff.mp e).1 a ha'
  · cases ej : env'[j]? with
    | none => rw [ej] at ha; cases ha
    | some s' =>
      cases el : env'[l]? with
      | none => rw [el] at hb; cases hb
      | some s'' =>
        rcases hf j s' ej with rfl | ⟨e, eo, u⟩
        · rw [ej] at ha; cases ha
        · rcases hf l s'' el with rfl | ⟨e2, eo2, u2⟩
          · rw [el] at hb; cases hb
          · have ha' : a ∈ fp (f j) := by
              rw [ej] at ha
              cases s' with
              | un => cases ha
              | st _ _ _ _ => exact ha
              | lk _ _ _ => exact ha
            have hb' : a ∈ fp (f l) := by
              rw [el] at hb
              cases s'' with
              | un => cases hb
              | st _ _ _ _ => exact hb
              | lk _ _ _ => exact hb
            have hne : s'' ≠ .un := by
              rintro rfl
              rw [el] at hb; cases hb
            exact (u l s'' el hne (q.sep _ _ (List.getElem?_eq_some_iff.mp e2).1 (List.getElem?_eq_some_iff.mp e).1 a hb' ha')).symm
  · show (match env'[j]? with | some .un => [] | some _ => fp (f j) | none => []).Nodup
    cases ej : env'[j]? with
    | none => exact List.nodup_nil
    | some s' =>
      rcases hf j s' ej with rfl | ⟨e, eo, _⟩
      · exact List.nodup_nil
      · have := q.nd (f j) (List.getElem?_eq_some_iff.mp e).1
        cases s' with
        | un => exact List.nodup_nil
        | st _ _ _ _ => exact this
        | lk _ _ _ => exact this
end
end Z

set_option Elab.async false
set_option linter.all false
set_option maxRecDepth 100000
namespace Z
open PySem PySem.Spec PyProof.Rows L2

section
variable {C : Ck} {F F' H H' : Hp} {σ σs σ' : List (Option V)} {env es env' : Env} {o : Option V} {s : Slot} {τ : Type} {S : Stor τ} {E : Enc τ} {x : τ} {v : V} {w : Option V} {i : Nat} {p : Addr} {u : HO}
theorem at_app {α : Type _} {as bs : List α} {i : Nat} (n : Nat) (h : as.length = n) : (as ++ bs)[n + i]? = bs[i]? := by
  subst h; rw [List.getElem?_append_right (Nat.le_add_right _ _), Nat.add_sub_cancel_left]
theorem ER.lookF (h : ER C F H (σs ++ σ) (es ++ env)) (hl : σs.length = es.length) (e : env[i]? = some (.st w τ S x)) : ∃ v fp, σ[i]? = some (some v) ∧ S.rel C.K F H fp v x := by
  obtain ⟨v, fp, a, b⟩ := h.look (i := es.length + i) (by rw [at_app _ rfl]; exact e)
  exact ⟨v, fp, by rw [at_app _ hl] at a; exact a, b⟩
theorem ER.lookKF (h : ER C F H (σs ++ σ) (es ++ env)) (hl : σs.length = es.length) (e : env[i]? = some (.lk τ S x)) : ∃ v fp, σ[i]? = some (some v) ∧ S.rel C.K F H fp v x := by
  obtain ⟨v, fp, a, b⟩ := h.lookK (i := es.length + i) (by rw [at_app _ rfl]; exact e)
  exact ⟨v, fp, by rw [at_app _ hl] at a; exact a, b⟩
theorem ER.repF (h : ER C F H (σs ++ σ) (es ++ env)) (hl : σs.length = es.length) (e : env[i]? = some (.st w τ (it E) x)) : ∃ v, σ[i]? = some (some v) ∧ Rep C.K F v (E.enc x) := by
  obtain ⟨v, fp, a, b⟩ := h.lookF hl e
  exact ⟨v, a, b.2⟩
theorem ER.lenF (h : ER C F H (σs ++ σ) (es ++ env)) (hl : σs.length = es.length) : σ.length = env.length := by
  have := h.len; simp [hl] at this; exact this
/-- the top of the stack goes to slot i -/
theorem ER.asg (h : ER C F H (o :: (σs ++ σ)) (s :: (es ++ env))) (hl : σs.length = es.length) (hi : i < env.length) : ER C F H (σs ++ σ.set i o) (es ++ env.set i s) := by
  have hls : σ.length = env.length := h.pop.lenF hl
  refine h.perm (by simp [hl, hls]) (fun j => if j = es.length + i then 0 else j + 1) fun j s' ej => .inr ?_
  by_cases z : j = es.length + i
  · subst z
    rw [at_app _ rfl, List.getElem?_set_self hi] at ej
    cases ej
    refine ⟨by simp, ?_, fun l s'' _ _ q => ?_⟩
    · simp only [if_pos]
      rw [at_app _ hl, List.getElem?_set_self (by omega)]
      rfl
    · by_cases y : l = es.length + i
      · exact y
      · simp only [if_neg y, if_pos] at q; omega
  · refine ⟨?_, ?_, fun l s'' _ _ q => ?_⟩
    · simp only [if_neg z, List.getElem?_cons_succ]
      by_cases a : j < es.length
      · rw [List.getElem?_append_left a] at ej ⊢; exact ej
      · obtain ⟨m, rfl⟩ : ∃ m, j = es.length + m := ⟨j - es.length, by omega⟩
        rw [at_app _ rfl, List.getElem?_set_ne (by omega)] at ej
        rw [at_app _ rfl]; exact ej
    · simp only [if_neg z, List.getElem?_cons_succ]
      by_cases a : j < es.length
      · rw [List.getElem?_append_left (by omega), List.getElem?_append_left (by omega)]
      · obtain ⟨m, rfl⟩ : ∃ m, j = es.length + m := ⟨j - es.length, by omega⟩
        rw [at_app _ hl, at_app _ hl, List.getElem?_set_ne (by omega)]
    · simp only [if_neg z] at q
      by_cases y : l = es.length + i
      · simp only [if_pos y] at q; omega
      · simp only [if_neg y] at q; omega
/-- weaker slots -/
inductive Sub : Env → Env → Prop
  | nil : Sub [] []
  | keep {s : Slot} {a b : Env} : Sub a b → Sub (s :: a) (s :: b)
  | drop {s : Slot} {a b : Env} : Sub a b → Sub (s :: a) (.un :: b)
theorem Sub.get : ∀ {a b : Env}, Sub a b → ∀ (j : Nat) (s' : Slot), b[j]? = some s' → s' = Slot.un ∨ a[j]? = some s'
  | _, _, .nil, j, s', e => by simp at e
  | _, _, .keep r, 0, s', e => .inr e
  | _, _, .keep r, j + 1, s', e => by simpa using r.get j s' (by simpa using e)
  | _, _, .drop r, 0, s', e => .inl (by simp at e; exact e.symm)
  | _, _, .drop r, j + 1, s', e => by simpa using r.get j s' (by simpa using e)
theorem Sub.len : ∀ {a b : Env}, Sub a b → a.length = b.length
  | _, _, .nil => rfl
  | _, _, .keep r => congrArg (· + 1) r.len
  | _, _, .drop r => congrArg (· + 1) r.len
theorem Sub.refl : ∀ (a : Env), Sub a a
  | [] => .nil
  | _ :: a => .keep (Sub.refl a)
theorem Sub.pre : ∀ (es : Env) {a b : Env}, Sub a b → Sub (es ++ a) (es ++ b)
  | [], _, _, r => r
  | _ :: es, _, _, r => .keep (Sub.pre es r)
theorem ER.sub (h : ER C F H σ env) (q : Sub env env') : ER C F H σ env' :=
  h.perm (by rw [h.len, q.len]) id fun j s' e => (q.get j s' e).imp id fun y => ⟨y, rfl, fun l _ _ _ z => z⟩
theorem ER.subF (h : ER C F H (σs ++ σ) (es ++ env)) (q : Sub env env') : ER C F H (σs ++ σ) (es ++ env') := h.sub (q.pre es)
theorem rot_key {α : Type _} (a : α) (at_ as : List α) {n : Nat} (hlen : at_.length = n) (j : Nat) : (a :: (at_ ++ as))[j]? = (at_ ++ a :: as)[if j = 0 then n else if j ≤ n then j - 1 else j]? := by
  by_cases z : j = 0
  · subst z
    simp only [if_pos, List.getElem?_cons_zero]
    rw [List.getElem?_append_right (by omega), hlen, Nat.sub_self]; rfl
  · obtain ⟨m, rfl⟩ : ∃ m, j = m + 1 := ⟨j - 1, by omega⟩
    simp only [if_neg z, List.getElem?_cons_succ]
    by_cases y : m + 1 ≤ n
    · rw [if_pos y, Nat.add_sub_cancel, List.getElem?_append_left (by omega), List.getElem?_append_left (by omega)]
    · rw [if_neg y, List.getElem?_append_right (by omega), List.getElem?_append_right (by omega)]
      obtain ⟨q, hq⟩ : ∃ q, m = n + q := ⟨m - n, by omega⟩
      subst hq
      rw [hlen, show n + q + 1 - n = q + 1 by omega, List.getElem?_cons_succ, show n + q - n = q by omega]
/-- a pushed value stands under others: it comes to the top -/
theorem ER.rot {σt : List (Option V)} {et : Env} (h : ER C F H (σt ++ o :: σ) (et ++ s :: env)) (hl : σt.length = et.length) : ER C F H (o :: (σt ++ σ)) (s :: (et ++ env)) := by
  have hls : σ.length = env.length := by have := h.len; simp [hl] at this; omega
  refine h.perm (by simp [hl, hls]) (fun j => if j = 0 then et.length else if j ≤ et.length then j - 1 else j) fun j s' ej => .inr ?_
  refine ⟨?_, ?_, fun l s'' _ _ q => ?_⟩
  · rw [← rot_key s et env rfl]; exact ej
  · rw [rot_key o σt σ hl]
  · by_cases z : j = 0
    · subst z
      by_cases y : l = 0
      · exact y
      · simp only [if_neg y, if_pos] at q
        by_cases a : l ≤ et.length
        · rw [if_pos a] at q; omega
        · rw [if_neg a] at q; omega
    · by_cases y : l = 0
      · subst y
        simp only [if_neg z, if_pos] at q
        by_cases a : j ≤ et.length
        · rw [if_pos a] at q; omega
        · rw [if_neg a] at q; omega
      · simp only [if_neg z, if_neg y] at q
        by_cases a : j ≤ et.length
        · rw [if_pos a] at q
          by_cases b : l ≤ et.length
          · rw [if_pos b] at q; omega
          · rw [if_neg b] at q; omega
        · rw [if_neg a] at q
          by_cases b : l ≤ et.length
          · rw [if_pos b] at q; omega
          · rw [if_neg b] at q; omega
theorem unrot_key {α : Type _} (a : α) (at_ as : List α) {n : Nat} (hlen : at_.length = n) (j : Nat) : (at_ ++ a :: as)[j]? = (a :: (at_ ++ as))[if j < n then j + 1 else if j = n then 0 else j]? := by
  by_cases z : j < n
  · rw [if_pos z, List.getElem?_cons_succ, List.getElem?_append_left (by omega), List.getElem?_append_left (by omega)]
  · rw [if_neg z]
    by_cases y : j = n
    · rw [if_pos y, List.getElem?_append_right (by omega), hlen, y, Nat.sub_self]; rfl
    · rw [if_neg y, List.getElem?_append_right (by omega)]
      obtain ⟨q, rfl⟩ : ∃ q, j = n + 1 + q := ⟨j - n - 1, by omega⟩
      rw [hlen, show n + 1 + q - n = q + 1 by omega, List.getElem?_cons_succ, show n + 1 + q = (n + q) + 1 by omega, List.getElem?_cons_succ, List.getElem?_append_right (by omega), hlen, Nat.add_sub_cancel_left]
/-- the top goes below others -/
theorem ER.unrot {σt : List (Option V)} {et : Env} (h : ER C F H (o :: (σt ++ σ)) (s :: (et ++ env))) (hl : σt.length = et.length) : ER C F H (σt ++ o :: σ) (et ++ s :: env) := by
  have hls : σ.length = env.length := by have := h.len; simp [hl] at this; omega
  refine h.perm (by simp [hl, hls]) (fun j => if j < et.length then j + 1 else if j = et.length then 0 else j) fun j s' ej => .inr ?_
  refine ⟨?_, ?_, fun l s'' _ _ q => ?_⟩
  · rw [← unrot_key s et env rfl]; exact ej
  · rw [unrot_key o σt σ hl]
  · by_cases z : j < et.length
    · simp only [if_pos z] at q
      by_cases y : l < et.length
      · simp only [if_pos y] at q; omega
      · simp only [if_neg y] at q
        by_cases x : l = et.length
        · simp only [if_pos x] at q; omega
        · simp only [if_neg x] at q; omega
    · simp only [if_neg z] at q
      by_cases y : l < et.length
      · simp only [if_pos y] at q
        by_cases x : j = et.length
        · simp only [if_pos x] at q; omega
        · simp only [if_neg x] at q; omega
      · simp only [if_neg y] at q
        by_cases x : j = et.length
        · simp only [if_pos x] at q
          by_cases w : l = et.length
          · omega
          · simp only [if_neg w] at q; omega
        · simp only [if_neg x] at q
          by_cases w : l = et.length
          · simp only [if_pos w] at q; omega
          · simp only [if_neg w] at q; omega
end

/-! ### the judgements -/
section
variable (X : Cx) {Ω : Type}
/-- the weakest readings -/
def tE (e : Expr) : TE := fun σ H Q => ∀ pins s, Inv X pins σ H s → wpAny (model X.prog X.w) X.A (eval e X.env) (EP X pins σ Q) X.xe s
def tT (e : Expr) : TT := fun σ H Q => ∀ pins s, Inv X pins σ H s → wpAny (model X.prog X.w) X.A (isTrue e X.env (eval e X.env)) (TP X pins σ Q) X.xe s
def tAs (es : List Expr) : TA := fun σ H Q => ∀ pos pins s, Inv X pins σ H s → wpAny (model X.prog X.w) X.A (spliced (backTo pos (starEach es X.env))) (AP X pins σ Q) X.xe s
def tSs (st : List Stmt) : TS := fun D σ H => ∀ pins s, Inv X pins σ H s → wpAny (model X.prog X.w) X.A (execs st X.env) (SP X pins D) X.xe s
def tS1 (st : Stmt) : TS := fun D σ H => ∀ pins s, Inv X pins σ H s → wpAny (model X.prog X.w) X.A (exec st X.env) (SP X pins D) X.xe s
theorem peC {e : Expr} : PE X e (tE X e) := ⟨fun pins s σ H Q I h => h pins s I⟩
theorem ptC {e : Expr} : PT X e (tT X e) := ⟨fun pins s σ H Q I h => h pins s I⟩
theorem paC {es : List Expr} : PA X es (tAs X es) := ⟨fun pos pins s σ H Q I h => h pos pins s I⟩
theorem pssC {st : List Stmt} : PSs X st (tSs X st) := ⟨fun pins s σ H D I h => h pins s I⟩
theorem psC {st : Stmt} : PS X st (tS1 X st) := ⟨fun pins s σ H D I h => h pins s I⟩
theorem tE.of {e : Expr} {t : TE} {σ : L2.St} {H : Hp} {Q : VK} (h : PE X e t) (q : t σ H Q) : tE X e σ H Q := fun pins s I => h.run pins s σ H Q I q
theorem tT.of {e : Expr} {t : TT} {σ : L2.St} {H : Hp} {Q : Bool → Hp → Prop} (h : PT X e t) (q : t σ H Q) : tT X e σ H Q := fun pins s I => h.run pins s σ H Q I q
theorem tAs.of {es : List Expr} {t : TA} {σ : L2.St} {H : Hp} {Q : List V → Hp → Prop} (h : PA X es t) (q : t σ H Q) : tAs X es σ H Q := fun pos pins s I => h.run pos pins s σ H Q I q
theorem tSs.of {st : List Stmt} {t : TS} {σ : L2.St} {H : Hp} {D : Ends} (h : PSs X st t) (q : t D σ H) : tSs X st D σ H := fun pins s I => h.run pins s σ H D I q
theorem tS1.of {st : Stmt} {t : TS} {σ : L2.St} {H : Hp} {D : Ends} (h : PS X st t) (q : t D σ H) : tS1 X st D σ H := fun pins s I => h.run pins s σ H D I q

def LX (env : Env) (e : Expr) {τ : Type} (S : Stor τ) {P : Type} (env' : P → Env) (f : (τ → P → Option Ω) → Option Ω) : Prop :=
  ∀ (C : Ck) (F H : Hp) (σs : List (Option V)) (es : Env) (σ : List (Option V)) (k : τ → P → Option Ω) (ω : Ω) (Q : VK), C.K = X.K → σs.length = es.length → ER C F H (σs ++ σ) (es ++ env) → f k = some ω →
    (∀ a p v F' H', k a p = some ω → ER C F' H' (some v :: (σs ++ σ)) (.st none τ S a :: (es ++ env' p)) → Q v H') → tE X e σ H Q
def LT (env : Env) (e : Expr) {P : Type} (env' : P → Env) (f : (Bool → P → Option Ω) → Option Ω) : Prop :=
  ∀ (C : Ck) (F H : Hp) (σs : List (Option V)) (es : Env) (σ : List (Option V)) (k : Bool → P → Option Ω) (ω : Ω) (Q : Bool → Hp → Prop), C.K = X.K → σs.length = es.length → ER C F H (σs ++ σ) (es ++ env) → f k = some ω →
    (∀ a p F' H', k a p = some ω → ER C F' H' (σs ++ σ) (es ++ env' p) → Q a H') → tT X e σ H Q
/-- an operand: what it tells may be read as long as the slots stand -/
def LO (G : Env → Prop) (env : Env) (e : Expr) {τ : Type} (S : Stor τ) {P : Type} (env' : P → Env) (f : (τ → P → Option Ω) → Option Ω) : Prop :=
  ∀ (C : Ck) (F H : Hp) (σs : List (Option V)) (es : Env) (σ : List (Option V)) (k : τ → P → Option Ω) (ω : Ω) (Q : VK), C.K = X.K → σs.length = es.length → ER C F H (σs ++ σ) (es ++ env) → f k = some ω →
    (∀ a p v F' H' (σx : List (Option V)) (ex : Env), σx.length = ex.length → k a p = some ω → ER C F' H' (σx ++ (σs ++ σ)) (ex ++ (es ++ env' p)) →
      (∀ (F'' H'' : Hp) (σ2 : List (Option V)) (e2 env2 : Env), G env2 → σ2.length = e2.length → ER C F'' H'' (σ2 ++ (σx ++ (σs ++ σ))) (e2 ++ (ex ++ (es ++ env2))) → ∃ fp, S.rel C.K F'' H'' fp v a) → Q v H') → tE X e σ H Q
/-- arguments, from the left -/
def LA (env : Env) (xs : List Expr) {A : Type} (sl : A → Env) {P : Type} (env' : P → Env) (f : (A → P → Option Ω) → Option Ω) : Prop :=
  ∀ (C : Ck) (F H : Hp) (σs : List (Option V)) (es : Env) (σ : List (Option V)) (k : A → P → Option Ω) (ω : Ω) (Q : List V → Hp → Prop), C.K = X.K → σs.length = es.length → ER C F H (σs ++ σ) (es ++ env) → f k = some ω →
    (∀ a p (vs : List V) F' H', k a p = some ω → (vs.map some).length = (sl a).length → ER C F' H' (vs.map some ++ (σs ++ σ)) (sl a ++ (es ++ env' p)) → Q vs H') → tAs X xs σ H Q
/-- a comparison: value and test -/
def LC (env : Env) (op : CmpOp) (a b : Expr) {P : Type} (env' : P → Env) (f : (Bool → P → Option Ω) → Option Ω) : Prop :=
  ∃ r : R2, OpR X (compareOp op) r ∧ ∀ (C : Ck) (F H : Hp) (σs : List (Option V)) (es : Env) (σ : List (Option V)) (k : Bool → P → Option Ω) (ω : Ω) (Q : VK), C.K = X.K → σs.length = es.length → ER C F H (σs ++ σ) (es ++ env) → f k = some ω →
    (∀ c p F' H', k c p = some ω → ER C F' H' (σs ++ σ) (es ++ env' p) → Q (.bl c) H') → tOp r (tE X a) (tE X b) σ H Q
end

/-- a label: where a break or a continue goes -/
structure Lp (Ω : Type) where
  J : Type
  env : J → Env
  k : J → Option Ω
def noLp (Ω : Type) : Lp Ω := ⟨Empty, fun e => e.elim, fun e => e.elim⟩
section
variable (X : Cx)
def LB {R I Ω : Type} (S : Stor R) (envR : I → Env) (kr : R → I → Option Ω) (bk ct : Lp Ω) (env : Env) (sts : List Stmt) {J : Type} (envJ : J → Env) (f : (J → Option Ω) → Option Ω) : Prop :=
  ∀ (C : Ck) (F H : Hp) (σs : List (Option V)) (es : Env) (σ : List (Option V)) (kn : J → Option Ω) (ω : Ω) (D : Ends), C.K = X.K → σs.length = es.length → ER C F H (σs ++ σ) (es ++ env) → f kn = some ω →
    (∀ j F' H' σ', kn j = some ω → ER C F' H' (σs ++ σ') (es ++ envJ j) → D.nx σ' H') →
    (∀ j F' H' σ', bk.k j = some ω → ER C F' H' (σs ++ σ') (es ++ bk.env j) → D.bk σ' H') →
    (∀ j F' H' σ', ct.k j = some ω → ER C F' H' (σs ++ σ') (es ++ ct.env j) → D.ct σ' H') →
    (∀ a i v F' H' σ', kr a i = some ω → ER C F' H' (some v :: (σs ++ σ')) (.st none R S a :: (es ++ envR i)) → D.rt v H') → tSs X sts D σ H
end

/-! ### names, constants -/
section
variable {X : Cx} {Ω : Type} {env env1 : Env} {τ : Type} {S : Stor τ} {E : Enc τ} {x : τ} {w : Option V} {i : Nat} {nm : Str} {pos : Pos} {e a b : Expr} {P P1 P2 : Type} {f : (τ → P → Option Ω) → Option Ω} {env' : P → Env}
theorem lx_var (i : Nat) (cp : Cp S) (e : env[i]? = some (.st w τ S x)) (hN : X.N[i]? = some nm := by rfl) (hv : Vis X.env.scope nm := by first | exact Or.inl rfl | exact Or.inr (Or.inl rfl) | exact Or.inr (Or.inr rfl)) (hd : (nm == ("__debug__" : Str)) = false := by decide) (hcd : (nm == ("__classdict__" : Str)) = false := by decide) :
    LX X env (.Name nm pos) S (fun _ : Unit => env) (fun (k : τ → Unit → Option Ω) => k x ()) := by
  refine fun C F H σs es σ k ω Q hK hl h hk q => tE.of X (pe_var hN hv hd hcd) ?_
  obtain ⟨v, fp, e1, r⟩ := h.lookF hl e
  have z := cp.nil r
  subst z
  exact ⟨v, e1, q x () v F H hk (h.push0 ⟨v, rfl, r, fun _ m => nomatch m⟩)⟩
/-- an own object is read and shared from here on -/
theorem lx_frz (i : Nat) (fz : Frz S E) (e : env[i]? = some (.st none τ S x)) (hN : X.N[i]? = some nm := by rfl) (hv : Vis X.env.scope nm := by first | exact Or.inl rfl | exact Or.inr (Or.inl rfl) | exact Or.inr (Or.inr rfl)) (hd : (nm == ("__debug__" : Str)) = false := by decide) (hcd : (nm == ("__classdict__" : Str)) = false := by decide) :
    LX X env (.Name nm pos) (it E) (fun _ : Unit => env.set i (.st none τ (it E) x)) (fun (k : τ → Unit → Option Ω) => k x ()) := by
  refine fun C F H σs es σ k ω Q hK hl h hk q => tE.of X (pe_var hN hv hd hcd) ?_
  obtain ⟨F', sF, h'⟩ := h.freeze (i := es.length + i) fz (by rw [at_app _ rfl]; exact e)
  have h2 : ER C F' H (σs ++ σ) (es ++ env.set i (.st none τ (it E) x)) := by
    rw [List.set_append_right _ _ (Nat.le_add_right _ _), Nat.add_sub_cancel_left] at h'
    exact h'
  obtain ⟨v, e1, r⟩ := h2.repF (i := i) (E := E) (x := x) (w := none) hl (by rw [List.getElem?_set_self (List.getElem?_eq_some_iff.mp e).1])
  exact ⟨v, e1, q x () v F' H hk (h2.pushSh r)⟩
/-- an own object is handed on -/
theorem lx_move (i : Nat) (e : env[i]? = some (.st none τ S x)) (hN : X.N[i]? = some nm := by rfl) (hv : Vis X.env.scope nm := by first | exact Or.inl rfl | exact Or.inr (Or.inl rfl) | exact Or.inr (Or.inr rfl)) (hd : (nm == ("__debug__" : Str)) = false := by decide) (hcd : (nm == ("__classdict__" : Str)) = false := by decide) :
    LX X env (.Name nm pos) S (fun _ : Unit => env.set i .un) (fun (k : τ → Unit → Option Ω) => k x ()) := by
  refine fun C F H σs es σ k ω Q hK hl h hk q => tE.of X (pe_var hN hv hd hcd) ?_
  obtain ⟨v, fp, e1, r⟩ := h.lookF hl e
  refine ⟨v, e1, q x () v F H hk ?_⟩
  have hi := (List.getElem?_eq_some_iff.mp e).1
  refine h.perm (by have := h.len; simp at this ⊢; omega) (fun j => if j = 0 then es.length + i else j - 1) fun j s' ej => ?_
  cases j with
  | zero =>
    simp at ej; subst ej
    refine .inr ⟨?_, ?_, fun l s'' el hne hq => ?_⟩
    · simp only [if_pos]; rw [at_app _ rfl]; exact e
    · simp only [if_pos]; rw [at_app _ hl, e1]; rfl
    · by_cases z : l = 0
      · exact z
      · exfalso
        simp only [if_neg z, if_pos] at hq
        obtain ⟨m, rfl⟩ : ∃ m, l = m + 1 := ⟨l - 1, by omega⟩
        have hm : m = es.length + i := by omega
        subst hm
        rw [List.getElem?_cons_succ, at_app _ rfl, List.getElem?_set_self hi] at el
        exact hne (Option.some.inj el).symm
  | succ j =>
    rw [List.getElem?_cons_succ] at ej
    by_cases z : j = es.length + i
    · subst z
      rw [at_app _ rfl, List.getElem?_set_self hi] at ej
      exact .inl (Option.some.inj ej).symm
    · refine .inr ⟨?_, by simp, fun l s'' el hne hq => ?_⟩
      · simp only [Nat.add_one_sub_one, if_neg (Nat.succ_ne_zero j)]
        by_cases y : j < es.length
        · rw [List.getElem?_append_left y] at ej ⊢; exact ej
        · obtain ⟨m, rfl⟩ : ∃ m, j = es.length + m := ⟨j - es.length, by omega⟩
          rw [at_app _ rfl, List.getElem?_set_ne (by omega)] at ej
          rw [at_app _ rfl]; exact ej
      · by_cases y : l = 0
        · subst y; simp only [if_pos, if_neg (Nat.succ_ne_zero j)] at hq; omega
        · simp only [if_neg y, if_neg (Nat.succ_ne_zero j)] at hq; omega
theorem lx_c {v : V} (hp : PE X e (tC v)) (r : ∀ F, Rep X.K F v (E.enc x)) : LX X env e (it E) (fun _ : Unit => env) (fun (k : τ → Unit → Option Ω) => k x ()) :=
  fun C F H σs es σ k ω Q hK hl h hk q => tE.of X hp (q x () v F H hk (h.pushSh (by rw [hK]; exact r F)))
theorem lx_int {n : Int} {j : Nat} : LX X env (.Constant (.int n) j pos) (it eI) (fun _ : Unit => env) (fun (k : Int → Unit → Option Ω) => k n ()) := lx_c pe_int fun _ => .int n
theorem lx_bl {c : Bool} {j : Nat} : LX X env (.Constant (.bool c) j pos) (it eB) (fun _ : Unit => env) (fun (k : Bool → Unit → Option Ω) => k c ()) := lx_c pe_bl fun _ => .bl c
theorem lx_str {c : Str} {j : Nat} : LX X env (.Constant (.str c) j pos) (it eS) (fun _ : Unit => env) (fun (k : Str → Unit → Option Ω) => k c ()) := lx_c pe_str fun _ => .str c
theorem lx_non {j : Nat} : LX X env (.Constant .none j pos) (it eN) (fun _ : Unit => env) (fun (k : Unit → Unit → Option Ω) => k () ()) := lx_c pe_non fun _ => .non
/-- what is told may be taken for another kind of the same data -/
theorem lx_as {τ' : Type} {E' : Enc τ'} (h : LX X env e (it E) env' f) (g : τ → τ') (hg : ∀ a, E'.enc (g a) = E.enc a) : LX X env e (it E') env' (fun (k : τ' → P → Option Ω) => f fun a p => k (g a) p) := by
  refine fun C F H σs es σ k ω Q hK hl hr hk q => h C F H σs es σ _ ω Q hK hl hr hk fun a p v F' H' hka h' => q (g a) p v F' H' hka ?_
  obtain ⟨v', fp, e1, r⟩ := h'.look (i := 0) rfl
  simp at e1; subst e1
  exact h'.pop.pushSh (by rw [hg]; exact r.2)
/-- .. a cast: where the data are of another kind the walk is not followed -/
theorem lx_cast {τ' : Type} {E' : Enc τ'} (h : LX X env e (it E) env' f) (g : τ → Option τ') (hg : ∀ a b, g a = some b → E'.enc b = E.enc a) : LX X env e (it E') env' (fun (k : τ' → P → Option Ω) => f fun a p => (g a).bind fun b => k b p) := by
  refine fun C F H σs es σ k ω Q hK hl hr hk q => h C F H σs es σ _ ω Q hK hl hr hk fun a p v F' H' hka h' => ?_
  cases z : g a with
  | none => rw [z] at hka; cases hka
  | some b =>
    rw [z] at hka
    obtain ⟨v', fp, e1, r⟩ := h'.look (i := 0) rfl
    simp at e1; subst e1
    exact q b p v F' H' hka (h'.pop.pushSh (by rw [hg a b z]; exact r.2))
/-- own objects that were made are shared -/
theorem lx_sh (fz : Frz S E) (h : LX X env e S env' f) : LX X env e (it E) env' f := by
  refine fun C F H σs es σ k ω Q hK hl hr hk q => h C F H σs es σ k ω Q hK hl hr hk fun a p v F' H' hka h' => ?_
  obtain ⟨F2, sF, h2⟩ := h'.freeze (i := 0) fz rfl
  exact q a p v F2 H' hka h2
/-- the operands -/
theorem lo_of (h : LX X env e S env' f) : LO X (fun _ => True) env e S env' f := by
  refine fun C F H σs es σ k ω Q hK hl hr hk q => h C F H σs es σ k ω Q hK hl hr hk fun a p v F' H' hka h' => ?_
  refine q a p v F' H' [some v] [.st none τ S a] rfl hka h' fun F'' H'' σ2 e2 env2 _ hl2 h2 => ?_
  obtain ⟨v', fp, e1, r⟩ := h2.look (i := e2.length + 0) (by rw [at_app _ rfl]; rfl)
  rw [at_app _ hl2] at e1
  simp at e1; subst e1
  exact ⟨fp, r⟩
theorem lo_var (i : Nat) (e : env[i]? = some (.st w τ S x)) (hN : X.N[i]? = some nm := by rfl) (hv : Vis X.env.scope nm := by first | exact Or.inl rfl | exact Or.inr (Or.inl rfl) | exact Or.inr (Or.inr rfl)) (hd : (nm == ("__debug__" : Str)) = false := by decide) (hcd : (nm == ("__classdict__" : Str)) = false := by decide) :
    LO X (fun en => en[i]? = some (.st w τ S x)) env (.Name nm pos) S (fun _ : Unit => env) (fun (k : τ → Unit → Option Ω) => k x ()) := by
  refine fun C F H σs es σ k ω Q hK hl h hk q => tE.of X (pe_var hN hv hd hcd) ?_
  obtain ⟨v, fp, e1, r⟩ := h.lookF hl e
  refine ⟨v, e1, q x () v F H [] [] rfl hk h fun F'' H'' σ2 e2 env2 hg hl2 h2 => ?_⟩
  have h3 : ER C F'' H'' ((σ2 ++ σs) ++ σ) ((e2 ++ es) ++ env2) := by simpa [List.append_assoc] using h2
  obtain ⟨v', fp', e1', r'⟩ := h3.lookF (i := i) (τ := τ) (S := S) (x := x) (w := w) (by simp [hl, hl2]) hg
  rw [e1] at e1'; cases e1'
  exact ⟨fp', r'⟩
theorem lo_lk (i : Nat) (e : env[i]? = some (.lk τ S x)) (hN : X.N[i]? = some nm := by rfl) (hv : Vis X.env.scope nm := by first | exact Or.inl rfl | exact Or.inr (Or.inl rfl) | exact Or.inr (Or.inr rfl)) (hd : (nm == ("__debug__" : Str)) = false := by decide) (hcd : (nm == ("__classdict__" : Str)) = false := by decide) :
    LO X (fun en => en[i]? = some (.lk τ S x)) env (.Name nm pos) S (fun _ : Unit => env) (fun (k : τ → Unit → Option Ω) => k x ()) := by
  refine fun C F H σs es σ k ω Q hK hl h hk q => tE.of X (pe_var hN hv hd hcd) ?_
  obtain ⟨v, fp, e1, r⟩ := h.lookKF hl e
  refine ⟨v, e1, q x () v F H [] [] rfl hk h fun F'' H'' σ2 e2 env2 hg hl2 h2 => ?_⟩
  have h3 : ER C F'' H'' ((σ2 ++ σs) ++ σ) ((e2 ++ es) ++ env2) := by simpa [List.append_assoc] using h2
  obtain ⟨v', fp', e1', r'⟩ := h3.lookKF (i := i) (τ := τ) (S := S) (x := x) (by simp [hl, hl2]) hg
  rw [e1] at e1'; cases e1'
  exact ⟨fp', r'⟩
end
end Z

set_option Elab.async false
set_option linter.all false
set_option maxRecDepth 100000
namespace Z
open PySem PySem.Spec PyProof.Rows L2

/-- a check on the way: where it fails the walk is not followed -/
def ck {Ω : Type} (b : Bool) (k : Option Ω) : Option Ω := if b then k else none
theorem ck_some {Ω : Type} {b : Bool} {k : Option Ω} {ω : Ω} (h : ck b k = some ω) : b = true ∧ k = some ω := by
  unfold ck at h
  cases b with
  | true => exact ⟨rfl, by simpa using h⟩
  | false => simp at h
@[simp] theorem ck_true {Ω : Type} (k : Option Ω) : ck true k = k := rfl
theorem bind_some {α Ω : Type} {o : Option α} {k : α → Option Ω} {ω : Ω} (h : o.bind k = some ω) : ∃ a, o = some a ∧ k a = some ω := by
  cases o with
  | none => cases h
  | some a => exact ⟨a, rfl, h⟩

section
variable {X : Cx} {Ω : Type} {env : Env} {nm : Str} {pos : Pos} {a b : Expr} {P P1 P2 : Type} {τ τ1 τ2 α β : Type} {S : Stor τ} {S1 : Stor τ1} {S2 : Stor τ2} {E : Enc τ} {E1 : Enc τ1} {E2 : Enc τ2}
  {G : Env → Prop} {G1 : Env → Prop} {G2 : P1 → Env → Prop} {e1 : P1 → Env} {e2 : P1 → P2 → Env} {fa : (τ1 → P1 → Option Ω) → Option Ω} {fb : P1 → (τ2 → P2 → Option Ω) → Option Ω}

theorem lo_run (ha : LO X G env a S1 e1 fa) (g1 : ∀ p1, G (e1 p1)) {C : Ck} {F H : Hp} {σs : List (Option V)} {es : Env} {σ : List (Option V)} {k : τ1 → P1 → Option Ω} {ω : Ω} {R : V → Hp → Prop} (hK : C.K = X.K) (hl : σs.length = es.length)
    (h : ER C F H (σs ++ σ) (es ++ env)) (hk : fa k = some ω)
    (q : ∀ x p1 v F' H' fp, k x p1 = some ω → ER C F' H' (σs ++ σ) (es ++ e1 p1) → S1.rel C.K F' H' fp v x → R v H') : tE X a σ H R :=
  ha C F H σs es σ k ω R hK hl h hk fun x p1 v F' H' σx ex hlx hk' h' r' => by
    obtain ⟨fp, rr⟩ := r' F' H' [] [] (e1 p1) (g1 p1) rfl h'
    exact q x p1 v F' H' fp hk' (h'.popN hlx) rr
/-- two operands in a row -/
theorem op2_run (ha : LO X G1 env a S1 e1 fa) (hb : ∀ p1, LO X (G2 p1) (e1 p1) b S2 (e2 p1) (fb p1)) (g1 : ∀ p1 p2, G1 (e2 p1 p2)) (g2 : ∀ p1 p2, G2 p1 (e2 p1 p2))
    {C : Ck} {F H : Hp} {σs : List (Option V)} {es : Env} {σ : List (Option V)} {k : τ1 → P1 → τ2 → P2 → Option Ω} {ω : Ω} {R : V → V → Hp → Prop} (hK : C.K = X.K) (hl : σs.length = es.length)
    (h : ER C F H (σs ++ σ) (es ++ env)) (hk : (fa fun x p1 => fb p1 fun y p2 => k x p1 y p2) = some ω)
    (q : ∀ x p1 y p2 v u F' H' fp fq, k x p1 y p2 = some ω → ER C F' H' (σs ++ σ) (es ++ e2 p1 p2) → S1.rel C.K F' H' fp v x → S2.rel C.K F' H' fq u y → R v u H') :
    tE X a σ H fun v H1 => tE X b σ H1 fun u H2 => R v u H2 :=
  ha C F H σs es σ _ ω _ hK hl h hk fun x p1 v F' H' σx ex hlx hk' h' r' =>
    hb p1 C F' H' (σx ++ σs) (ex ++ es) σ _ ω _ hK (by simp [hl, hlx]) (by simpa [List.append_assoc] using h') hk' fun y p2 u F2 H2 σy ey hly hk2 h2 r2 => by
      have h3 : ER C F2 H2 (σy ++ (σx ++ (σs ++ σ))) (ey ++ (ex ++ (es ++ e2 p1 p2))) := by simpa [List.append_assoc] using h2
      obtain ⟨fp, rr⟩ := r' F2 H2 σy ey (e2 p1 p2) (g1 p1 p2) hly h3
      obtain ⟨fq, rq⟩ := r2 F2 H2 [] [] (e2 p1 p2) (g2 p1 p2) rfl h2
      exact q x p1 y p2 v u F2 H2 fp fq hk2 ((h3.popN hly).popN hlx) rr rq

/-! ### numbers -/
/-- an operator of two ints, by its check and its value -/
theorem lx_opI {op : Operator} {r : R2} {c : Int → Int → Bool} {g : Int → Int → Int} (ho : OpR X (binaryOp op) r) (hr : ∀ i j H (Q : VK), c i j = true → Q (.int (g i j)) H → r (.int i) (.int j) H Q)
    {fa : (Int → P1 → Option Ω) → Option Ω} {fb : P1 → (Int → P2 → Option Ω) → Option Ω} (ha : LX X env a (it eI) e1 fa) (hb : ∀ p1, LX X (e1 p1) b (it eI) (e2 p1) (fb p1)) :
    LX X env (.BinOp a op b pos) (it eI) (fun p : P1 × P2 => e2 p.1 p.2) (fun k => fa fun x p1 => fb p1 fun y p2 => ck (c x y) (k (g x y) (p1, p2))) :=
  fun C F H σs es σ k ω Q hK hl h hk q => tE.of X (pe_op ho (peC X) (peC X)) (op2_run (lo_of ha) (fun p1 => lo_of (hb p1)) (fun _ _ => trivial) (fun _ _ => trivial) hK hl h hk
    fun x p1 y p2 v u F' H' fp fq hk' h' r1 r2 => by
      obtain ⟨hc, hk'⟩ := ck_some hk'
      obtain ⟨_, r1⟩ := r1
      obtain ⟨_, r2⟩ := r2
      cases r1; cases r2
      exact hr x y H' Q hc (q _ (p1, p2) _ F' H' hk' (h'.pushSh (.int _))))
/-- .. that needs no check -/
theorem lx_opT {op : Operator} {r : R2} {g : Int → Int → Int} (ho : OpR X (binaryOp op) r) (hr : ∀ i j H (Q : VK), Q (.int (g i j)) H → r (.int i) (.int j) H Q)
    {fa : (Int → P1 → Option Ω) → Option Ω} {fb : P1 → (Int → P2 → Option Ω) → Option Ω} (ha : LX X env a (it eI) e1 fa) (hb : ∀ p1, LX X (e1 p1) b (it eI) (e2 p1) (fb p1)) :
    LX X env (.BinOp a op b pos) (it eI) (fun p : P1 × P2 => e2 p.1 p.2) (fun k => fa fun x p1 => fb p1 fun y p2 => k (g x y) (p1, p2)) :=
  fun C F H σs es σ k ω Q hK hl h hk q => tE.of X (pe_op ho (peC X) (peC X)) (op2_run (lo_of ha) (fun p1 => lo_of (hb p1)) (fun _ _ => trivial) (fun _ _ => trivial) hK hl h hk
    fun x p1 y p2 v u F' H' fp fq hk' h' r1 r2 => by
      obtain ⟨_, r1⟩ := r1
      obtain ⟨_, r2⟩ := r2
      cases r1; cases r2
      exact hr x y H' Q (q _ (p1, p2) _ F' H' hk' (h'.pushSh (.int _))))
section
variable {fa : (Int → P1 → Option Ω) → Option Ω} {fb : P1 → (Int → P2 → Option Ω) → Option Ω}
theorem lx_add (ha : LX X env a (it eI) e1 fa) (hb : ∀ p1, LX X (e1 p1) b (it eI) (e2 p1) (fb p1)) :
    LX X env (.BinOp a .Add b pos) (it eI) (fun p : P1 × P2 => e2 p.1 p.2) (fun k => fa fun x p1 => fb p1 fun y p2 => k (x + y) (p1, p2)) := lx_opT op_add (fun i j _ _ q => ⟨i, j, rfl, rfl, q⟩) ha hb
theorem lx_sub (ha : LX X env a (it eI) e1 fa) (hb : ∀ p1, LX X (e1 p1) b (it eI) (e2 p1) (fb p1)) :
    LX X env (.BinOp a .Sub b pos) (it eI) (fun p : P1 × P2 => e2 p.1 p.2) (fun k => fa fun x p1 => fb p1 fun y p2 => k (x - y) (p1, p2)) := lx_opT op_sub (fun i j _ _ q => ⟨i, j, rfl, rfl, q⟩) ha hb
/-- a product: one factor is below 2 ^ 64 -/
def mulOk (i j : Int) : Bool := decide ((-(2 ^ 64) < i ∧ i < 2 ^ 64) ∨ (-(2 ^ 64) < j ∧ j < 2 ^ 64))
def divOk (j : Int) : Bool := decide (j ≠ 0 ∧ j.natAbs < 1073741824)
def modOk (j : Int) : Bool := decide (j ≠ 0)
def powOk (i j : Int) : Bool := decide (0 ≤ j ∧ j ≤ 1000000 ∧ i.natAbs < 2 ^ 64)
theorem lx_mul (ha : LX X env a (it eI) e1 fa) (hb : ∀ p1, LX X (e1 p1) b (it eI) (e2 p1) (fb p1)) :
    LX X env (.BinOp a .Mult b pos) (it eI) (fun p : P1 × P2 => e2 p.1 p.2) (fun k => fa fun x p1 => fb p1 fun y p2 => ck (mulOk x y) (k (x * y) (p1, p2))) := lx_opI (c := mulOk) op_mul (fun i j _ _ c q => ⟨i, j, rfl, rfl, of_decide_eq_true (p := (-(2 ^ 64) < i ∧ i < 2 ^ 64) ∨ (-(2 ^ 64) < j ∧ j < 2 ^ 64)) c, q⟩) ha hb
theorem lx_fdiv (ha : LX X env a (it eI) e1 fa) (hb : ∀ p1, LX X (e1 p1) b (it eI) (e2 p1) (fb p1)) :
    LX X env (.BinOp a .FloorDiv b pos) (it eI) (fun p : P1 × P2 => e2 p.1 p.2) (fun k => fa fun x p1 => fb p1 fun y p2 => ck (divOk y) (k (x.fdiv y) (p1, p2))) := lx_opI (c := fun _ y => divOk y) op_fdivN (fun i j _ _ c q => ⟨i, j, rfl, rfl, of_decide_eq_true (p := j ≠ 0 ∧ j.natAbs < 1073741824) c, q⟩) ha hb
theorem lx_mod (ha : LX X env a (it eI) e1 fa) (hb : ∀ p1, LX X (e1 p1) b (it eI) (e2 p1) (fb p1)) :
    LX X env (.BinOp a .Mod b pos) (it eI) (fun p : P1 × P2 => e2 p.1 p.2) (fun k => fa fun x p1 => fb p1 fun y p2 => ck (modOk y) (k (x.fmod y) (p1, p2))) := lx_opI (c := fun _ y => modOk y) op_modN (fun i j _ _ c q => ⟨i, j, rfl, rfl, of_decide_eq_true c, q⟩) ha hb
theorem lx_pow (ha : LX X env a (it eI) e1 fa) (hb : ∀ p1, LX X (e1 p1) b (it eI) (e2 p1) (fb p1)) :
    LX X env (.BinOp a .Pow b pos) (it eI) (fun p : P1 × P2 => e2 p.1 p.2) (fun k => fa fun x p1 => fb p1 fun y p2 => ck (powOk x y) (k (x ^ y.toNat) (p1, p2))) := lx_opI (c := powOk) op_pow (fun i j _ _ c q => ⟨i, j, rfl, rfl, of_decide_eq_true (p := 0 ≤ j ∧ j ≤ 1000000 ∧ i.natAbs < 2 ^ 64) c, q⟩) ha hb
theorem lx_neg (ha : LX X env a (it eI) e1 fa) : LX X env (.UnaryOp .USub a pos) (it eI) e1 (fun k => fa fun x p1 => k (-x) p1) :=
  fun C F H σs es σ k ω Q hK hl h hk q => tE.of X (pe_un un_neg (peC X)) (lo_run (lo_of ha) (fun _ => trivial) hK hl h hk fun x p1 v F' H' fp hk' h' r => by
    obtain ⟨_, r⟩ := r
    cases r
    exact ⟨x, rfl, q _ p1 _ F' H' hk' (h'.pushSh (.int _))⟩)
end
/-! ### comparisons -/
theorem lc_cmp {op : CmpOp} {r : R2} {g : τ1 → τ2 → Bool} (ho : OpR X (compareOp op) r) (ha : LO X G1 env a S1 e1 fa) (hb : ∀ p1, LO X (G2 p1) (e1 p1) b S2 (e2 p1) (fb p1)) (g1 : ∀ p1 p2, G1 (e2 p1 p2)) (g2 : ∀ p1 p2, G2 p1 (e2 p1 p2))
    (hr : ∀ K F H fp fq v u x y (Q : VK), K = X.K → Same F H → S1.rel K F H fp v x → S2.rel K F H fq u y → Q (.bl (g x y)) H → r v u H Q) :
    LC X env op a b (fun p : P1 × P2 => e2 p.1 p.2) (fun k => fa fun x p1 => fb p1 fun y p2 => k (g x y) (p1, p2)) :=
  ⟨r, ho, fun C F H σs es σ k ω Q hK hl h hk q => op2_run ha hb g1 g2 hK hl h hk fun x p1 y p2 v u F' H' fp fq hk' h' r1 r2 =>
    hr C.K F' H' fp fq v u x y Q hK h'.sF r1 r2 (q _ (p1, p2) F' H' hk' h')⟩
/-- .. with a check -/
theorem lc_cmpC {op : CmpOp} {r : R2} {c g : τ1 → τ2 → Bool} (ho : OpR X (compareOp op) r) (ha : LO X G1 env a S1 e1 fa) (hb : ∀ p1, LO X (G2 p1) (e1 p1) b S2 (e2 p1) (fb p1)) (g1 : ∀ p1 p2, G1 (e2 p1 p2)) (g2 : ∀ p1 p2, G2 p1 (e2 p1 p2))
    (hr : ∀ K F H fp fq v u x y (Q : VK), K = X.K → Same F H → c x y = true → S1.rel K F H fp v x → S2.rel K F H fq u y → Q (.bl (g x y)) H → r v u H Q) :
    LC X env op a b (fun p : P1 × P2 => e2 p.1 p.2) (fun k => fa fun x p1 => fb p1 fun y p2 => ck (c x y) (k (g x y) (p1, p2))) :=
  ⟨r, ho, fun C F H σs es σ k ω Q hK hl h hk q => op2_run ha hb g1 g2 hK hl h hk fun x p1 y p2 v u F' H' fp fq hk' h' r1 r2 => by
    obtain ⟨hc, hk'⟩ := ck_some hk'
    exact hr C.K F' H' fp fq v u x y Q hK h'.sF hc r1 r2 (q _ (p1, p2) F' H' hk' h')⟩
theorem lx_cmp {op : CmpOp} {e' : P → Env} {f : (Bool → P → Option Ω) → Option Ω} (h : LC X env op a b e' f) (hm : behindInMarks op b = false) : LX X env (.Compare a [op] [b] pos) (it eB) e' f := by
  obtain ⟨r, ho, h⟩ := h
  exact fun C F H σs es σ k ω Q hK hl hr hk q => tE.of X (pe_cmpR ho (peC X) (peC X) hm) (h C F H σs es σ k ω Q hK hl hr hk fun c p F' H' hk' h' => q c p _ F' H' hk' (h'.pushSh (.bl _)))
theorem lt_cmp {op : CmpOp} {e' : P → Env} {f : (Bool → P → Option Ω) → Option Ω} (h : LC X env op a b e' f) (hm : behindInMarks op b = false) : LT X env (.Compare a [op] [b] pos) e' f := by
  obtain ⟨r, ho, h⟩ := h
  exact fun C F H σs es σ k ω Q hK hl hr hk q => tT.of X (pt_cmpR ho (peC X) (peC X) hm) (h C F H σs es σ k ω _ hK hl hr hk fun c p F' H' hk' h' => ⟨c, rfl, q c p F' H' hk' h'⟩)
section
variable {fa : (Int → P1 → Option Ω) → Option Ω} {fb : P1 → (Int → P2 → Option Ω) → Option Ω}
theorem lc_int {op : CmpOp} {r : R2} {g : Int → Int → Bool} (ho : OpR X (compareOp op) r) (hr : ∀ i j H (Q : VK), Q (.bl (g i j)) H → r (.int i) (.int j) H Q) (ha : LX X env a (it eI) e1 fa) (hb : ∀ p1, LX X (e1 p1) b (it eI) (e2 p1) (fb p1)) :
    LC X env op a b (fun p : P1 × P2 => e2 p.1 p.2) (fun k => fa fun x p1 => fb p1 fun y p2 => k (g x y) (p1, p2)) :=
  lc_cmp ho (lo_of ha) (fun p1 => lo_of (hb p1)) (fun _ _ => trivial) (fun _ _ => trivial) fun K F H fp fq v u x y Q _ _ r1 r2 q => by
    obtain ⟨_, r1⟩ := r1
    obtain ⟨_, r2⟩ := r2
    cases r1; cases r2
    exact hr x y H Q q
theorem lc_lt (ha : LX X env a (it eI) e1 fa) (hb : ∀ p1, LX X (e1 p1) b (it eI) (e2 p1) (fb p1)) : LC X env .Lt a b (fun p : P1 × P2 => e2 p.1 p.2) (fun k => fa fun x p1 => fb p1 fun y p2 => k (decide (x < y)) (p1, p2)) := lc_int op_lt (fun i j _ _ q => ⟨i, j, rfl, rfl, q⟩) ha hb
theorem lc_le (ha : LX X env a (it eI) e1 fa) (hb : ∀ p1, LX X (e1 p1) b (it eI) (e2 p1) (fb p1)) : LC X env .LtE a b (fun p : P1 × P2 => e2 p.1 p.2) (fun k => fa fun x p1 => fb p1 fun y p2 => k (decide (x ≤ y)) (p1, p2)) := lc_int op_le (fun i j _ _ q => ⟨i, j, rfl, rfl, q⟩) ha hb
theorem lc_gt (ha : LX X env a (it eI) e1 fa) (hb : ∀ p1, LX X (e1 p1) b (it eI) (e2 p1) (fb p1)) : LC X env .Gt a b (fun p : P1 × P2 => e2 p.1 p.2) (fun k => fa fun x p1 => fb p1 fun y p2 => k (decide (y < x)) (p1, p2)) := lc_int op_gt (fun i j _ _ q => ⟨i, j, rfl, rfl, q⟩) ha hb
theorem lc_ge (ha : LX X env a (it eI) e1 fa) (hb : ∀ p1, LX X (e1 p1) b (it eI) (e2 p1) (fb p1)) : LC X env .GtE a b (fun p : P1 × P2 => e2 p.1 p.2) (fun k => fa fun x p1 => fb p1 fun y p2 => k (decide (y ≤ x)) (p1, p2)) := lc_int op_ge (fun i j _ _ q => ⟨i, j, rfl, rfl, q⟩) ha hb
theorem lc_eqI (ha : LX X env a (it eI) e1 fa) (hb : ∀ p1, LX X (e1 p1) b (it eI) (e2 p1) (fb p1)) : LC X env .Eq a b (fun p : P1 × P2 => e2 p.1 p.2) (fun k => fa fun x p1 => fb p1 fun y p2 => k (decide (x = y)) (p1, p2)) :=
  lc_int op_eq (fun i j _ _ q => ⟨rfl, by simpa using q⟩) ha hb
theorem lc_neI (ha : LX X env a (it eI) e1 fa) (hb : ∀ p1, LX X (e1 p1) b (it eI) (e2 p1) (fb p1)) : LC X env .NotEq a b (fun p : P1 × P2 => e2 p.1 p.2) (fun k => fa fun x p1 => fb p1 fun y p2 => k (!decide (x = y)) (p1, p2)) :=
  lc_int op_ne (fun i j _ _ q => ⟨rfl, by simpa using q⟩) ha hb
end
/-! ### truth -/
theorem lt_val {e' : P → Env} {f : (Bool → P → Option Ω) → Option Ω} (h : LX X env a (it eB) e' f) (he : ∀ whole, isTrue a X.env whole = (do let v ← whole; standAt a.pos; holding [v] (truthy v)) := by intro _; rfl) : LT X env a e' f :=
  fun C F H σs es σ k ω Q hK hl hr hk q => tT.of X (pt_val (peC X) he) (lo_run (lo_of h) (fun _ => trivial) hK hl hr hk fun x p1 v F' H' fp hk' h' r => by
    obtain ⟨_, r⟩ := r
    cases r
    exact ⟨x, rfl, q x p1 F' H' hk' h'⟩)
theorem lt_not {e' : P → Env} {f : (Bool → P → Option Ω) → Option Ω} (h : LT X env a e' f) : LT X env (.UnaryOp .Not a pos) e' (fun k => f fun c p => k (!c) p) :=
  fun C F H σs es σ k ω Q hK hl hr hk q => tT.of X (pt_not (ptC X)) (h C F H σs es σ _ ω _ hK hl hr hk fun c p F' H' hk' h' => q _ p F' H' hk' h')
end
end Z

set_option Elab.async false
set_option linter.all false
set_option maxRecDepth 100000
namespace Z
open PySem PySem.Spec PyProof.Rows L2

/-! ### arguments -/
section
variable {X : Cx} {Ω : Type} {env : Env} {nm : Str} {pos : Pos} {a b e : Expr} {xs : List Expr} {P P1 P2 A : Type} {τ τ1 τ2 α β : Type} {S : Stor τ} {S1 : Stor τ1} {S2 : Stor τ2} {E : Enc τ} {E1 : Enc τ1} {E2 : Enc τ2}
  {G : Env → Prop} {G1 : Env → Prop} {G2 : P1 → Env → Prop} {e' : P → Env} {e1 : P1 → Env} {e2 : P1 → P2 → Env} {fa : (τ1 → P1 → Option Ω) → Option Ω} {fb : P1 → (τ2 → P2 → Option Ω) → Option Ω} {f : (τ → P → Option Ω) → Option Ω}

theorem la_nil : LA X env [] (fun _ : Unit => []) (fun _ : Unit => env) (fun (k : Unit → Unit → Option Ω) => k () ()) :=
  fun C F H σs es σ k ω Q hK hl h hk q => tAs.of X pa_nil (q () () [] F H hk rfl h)
theorem la_cons {sl : A → Env} {fr : P1 → (A → P2 → Option Ω) → Option Ω} (h1 : LX X env e S1 e1 fa) (h2 : ∀ p1, LA X (e1 p1) xs sl (e2 p1) (fr p1)) (hs : starEach (e :: xs) X.env = (false, eval e X.env) :: starEach xs X.env := by rfl) :
    LA X env (e :: xs) (fun p : τ1 × A => .st none τ1 S1 p.1 :: sl p.2) (fun p : P1 × P2 => e2 p.1 p.2) (fun k => fa fun x p1 => fr p1 fun r p2 => k (x, r) (p1, p2)) :=
  fun C F H σs es σ k ω Q hK hl h hk q => tAs.of X (pa_cons (peC X) (paC X) hs) (h1 C F H σs es σ _ ω _ hK hl h hk fun x p1 v F' H' hk' h' =>
    h2 p1 C F' H' (some v :: σs) (.st none τ1 S1 x :: es) σ _ ω _ hK (by simp [hl]) h' hk' fun r p2 vs F2 H2 hk2 hlv h3 => by
      refine q (x, r) (p1, p2) (v :: vs) F2 H2 hk2 (by simpa using hlv) ?_
      exact ER.rot (σt := vs.map some) (et := sl r) h3 hlv)
/-- a name by its value alone: lent to a call -/
theorem la_lend {sl : A → Env} {fr : (A → P → Option Ω) → Option Ω} (i : Nat) {w : Option V} {x : τ} (he : env[i]? = some (.st w τ S x)) (hN : X.N[i]? = some nm) (hv : Vis X.env.scope nm) (h2 : LA X env xs sl e' fr) (hd : (nm == ("__debug__" : Str)) = false := by decide) (hcd : (nm == ("__classdict__" : Str)) = false := by decide)
    (hs : starEach (Expr.Name nm pos :: xs) X.env = (false, eval (Expr.Name nm pos) X.env) :: starEach xs X.env := by rfl) :
    ∀ (C : Ck) (F H : Hp) (σs : List (Option V)) (es : Env) (σ : List (Option V)) (k : A → P → Option Ω) (ω : Ω) (Q : List V → Hp → Prop), C.K = X.K → σs.length = es.length → ER C F H (σs ++ σ) (es ++ env) → fr k = some ω →
    (∀ a p (v : V) (vs : List V) F' H', k a p = some ω → σ[i]? = some (some v) → (vs.map some).length = (sl a).length → ER C F' H' (vs.map some ++ (σs ++ σ)) (sl a ++ (es ++ e' p)) → Q (v :: vs) H') → tAs X (Expr.Name nm pos :: xs) σ H Q :=
  fun C F H σs es σ k ω Q hK hl h hk q => tAs.of X (pa_cons (peC X) (paC X) hs) (tE.of X (pe_var hN hv hd hcd) (by
    obtain ⟨v, fp, e1, r⟩ := h.lookF hl he
    exact ⟨v, e1, h2 C F H σs es σ k ω _ hK hl h hk fun a p vs F' H' hk' hlv h' => q a p v vs F' H' hk' e1 hlv h'⟩))
/-- shared slots and the data in them -/
inductive ShL : Env → List PyData → Prop
  | nil : ShL [] []
  | cons {τ : Type} {E : Enc τ} {x : τ} {en : Env} {ds : List PyData} : ShL en ds → ShL (.st none τ (it E) x :: en) (E.enc x :: ds)
theorem ShL.rep {C : Ck} {F H : Hp} : ∀ {sl : Env} {ds : List PyData}, ShL sl ds → ∀ {vs : List V} {σ : List (Option V)} {env : Env}, (vs.map some).length = sl.length → ER C F H (vs.map some ++ σ) (sl ++ env) → RepAll C.K F vs ds
  | _, _, .nil, vs, σ, env, hl, h => by
    cases vs with
    | nil => exact .nil
    | cons v vs => simp at hl
  | _, _, .cons r, vs, σ, env, hl, h => by
    cases vs with
    | nil => simp at hl
    | cons v vs =>
      obtain ⟨v', fp, e1, q⟩ := h.look (i := 0) rfl
      simp at e1; subst e1
      exact .cons q.2 (r.rep (by simpa using hl) h.pop)
theorem RepAll.zero {K : Fg} {F : Hp} {τ : Type} {E : Enc τ} {H : Hp} : ∀ {vs : List V} {xs : List τ}, RepAll K F vs (xs.map E.enc) → RelAll ((it E).rel K F H) [] vs xs
  | [], [], _ => .nil
  | [], _ :: _, h => by cases h
  | _ :: _, [], h => by cases h
  | v :: vs, x :: xs, h => by
    cases h with
    | cons h1 h2 => exact RelAll.cons (fp := []) (fps := []) ⟨rfl, h1⟩ (RepAll.zero h2)
theorem RelAll.zero {K : Fg} {F : Hp} {τ : Type} {E : Enc τ} {H : Hp} : ∀ {fp : List Addr} {vs : List V} {xs : List τ}, RelAll ((it E).rel K F H) fp vs xs → fp = [] ∧ RepAll K F vs (xs.map E.enc)
  | _, _, _, .nil => ⟨rfl, .nil⟩
  | _, _, _, .cons h r => by
    obtain ⟨e, q⟩ := RelAll.zero r
    obtain ⟨e2, q2⟩ := h
    exact ⟨by rw [e, e2]; rfl, .cons q2 q⟩
/-- a tuple -/
theorem lx_tup {sl : A → Env} {fs : (A → P → Option Ω) → Option Ω} {j : Nat} (h : LA X env xs sl e' fs) (E : Enc τ) (g : A → τ) (ds : A → List PyData) (hd : ∀ a, ShL (sl a) (ds a)) (he : ∀ a, E.enc (g a) = .tuple (ds a)) (hz : xs.length ≤ 1000 := by decide) (hz2 : ∀ a, (sl a).length = xs.length := by intro _; rfl) :
    LX X env (.Tuple xs j pos) (it E) e' (fun k => fs fun a p => k (g a) p) :=
  fun C F H σs es σ k ω Q hK hl hr hk q => tE.of X (pe_tup (paC X)) (h C F H σs es σ _ ω _ hK hl hr hk fun a p vs F' H' hk' hlv h' => by
    refine ⟨?_, fun t nt => ?_⟩
    · have := hz2 a; simp at hlv; exact Nat.le_of_lt (small1000 (by omega))
    · have r := (hd a).rep hlv h'
      refine q (g a) p (.ref t) (upd F' t (.tup vs)) _ hk' (((h'.popN hlv).newF nt).pushSh ?_)
      rw [he]
      exact .tup (SqT.of upd_same) (r.mono (same_new ((h'.popN hlv).fnone nt))))
/-- a list of shared things: a new one, of one's own -/
theorem lx_list {sl : A → Env} {fs : (A → P → Option Ω) → Option Ω} (h : LA X env xs sl e' fs) (E : Enc τ) (g : A → List τ) (hd : ∀ a, ShL (sl a) ((g a).map E.enc)) (hz : xs.length ≤ 1000 := by decide) (hz2 : ∀ a, (sl a).length = xs.length := by intro _; rfl) :
    LX X env (.List xs pos) (ls (it E)) e' (fun k => fs fun a p => k (g a) p) :=
  fun C F H σs es σ k ω Q hK hl hr hk q => tE.of X (pe_lst (paC X)) (h C F H σs es σ _ ω _ hK hl hr hk fun a p vs F' H' hk' hlv h' => by
    refine ⟨?_, fun t nt => ?_⟩
    · have := hz2 a; simp at hlv; exact Nat.le_of_lt (small1000 (by omega))
    · have r := (hd a).rep hlv h'
      exact q (g a) p (.ref t) F' _ hk' ((h'.popN hlv).newOw nt ⟨t, vs, [], rfl, upd_same, r.zero, rfl⟩))

/-! ### sequences that are read -/
/-- a list that is tracked -/
structure LVm (S : Stor τ) (S1 : Stor α) (g : τ → List α) : Prop where
  view : ∀ {K : Fg} {F H : Hp} {fp : List Addr} {v : V} {x : τ}, Same F H → S.rel K F H fp v x → ∃ p vs fps, v = .ref p ∧ H p = some (.lst vs) ∧ RelAll (S1.rel K F H) fps vs (g x)
/-- a list -/
structure LVw (S : Stor τ) (S1 : Stor α) (g : τ → List α) : Prop where
  view : ∀ {K : Fg} {F H : Hp} {fp : List Addr} {v : V} {x : τ}, Same F H → S.rel K F H fp v x → ∃ p vs fps, v = .ref p ∧ SqL K H p vs ∧ RelAll (S1.rel K F H) fps vs (g x)
structure TVw (S : Stor τ) (S1 : Stor α) (g : τ → List α) : Prop where
  view : ∀ {K : Fg} {F H : Hp} {fp : List Addr} {v : V} {x : τ}, Same F H → S.rel K F H fp v x → ∃ p vs fps, v = .ref p ∧ SqT K H p vs ∧ RelAll (S1.rel K F H) fps vs (g x)
theorem LVm.w {S1 : Stor α} {g : τ → List α} (h : LVm S S1 g) : LVw S S1 g := ⟨fun s r => let ⟨p, vs, fps, e, h1, h2⟩ := h.view s r; ⟨p, vs, fps, e, SqL.of h1, h2⟩⟩
theorem lm_sh : LVm (it (eL E)) (it E) id := ⟨fun {K F H fp v x} s r => by
  obtain ⟨_, r⟩ := r
  generalize hd : (eL E).enc x = d at r
  cases r with
  | lst h1 h2 =>
    simp only [eL] at hd
    injection hd with hd
    subst hd
    exact ⟨_, _, _, rfl, s _ _ h1, h2.zero⟩
  | _ => simp [eL] at hd⟩
theorem lm_ow {S1 : Stor α} : LVm (ls S1) S1 id := ⟨fun {K F H fp v x} s r => by
  obtain ⟨p, vs, fps, rfl, h, q, rfl⟩ := r
  exact ⟨p, vs, fps, rfl, h, q⟩⟩
theorem tv_sh : TVw (it (eV E)) (it E) id := ⟨fun {K F H fp v x} s r => by
  obtain ⟨_, r⟩ := r
  generalize hd : (eV E).enc x = d at r
  cases r with
  | tup h1 h2 =>
    simp only [eV] at hd
    injection hd with hd
    subst hd
    exact ⟨_, _, _, rfl, same_sqT s h1, h2.zero⟩
  | _ => simp [eV] at hd⟩
theorem atI_map {α β : Type} (f : α → β) (xs : List α) (i : Int) : atI (xs.map f) i = (atI xs i).map f := by
  unfold atI
  rw [List.length_map]
  cases ixN xs.length i with
  | none => rfl
  | some j => simp
theorem RepAll.at {K : Fg} {F : Hp} {vs : List V} {xs : List τ} {i : Int} {y : τ} (h : RepAll K F vs (xs.map E.enc)) (e : atI xs i = some y) : ∃ v, atI vs i = some v ∧ Rep K F v (E.enc y) := by
  have hl : vs.length = xs.length := by have := h.length; simpa using this
  unfold atI at e ⊢
  rw [hl]
  cases hj : ixN xs.length i with
  | none => rw [hj] at e; cases e
  | some j =>
    rw [hj] at e
    have e' : xs[j]? = some y := e
    obtain ⟨v, h1, h2⟩ := h.get (i := j) (d := E.enc y) (by rw [List.getElem?_map, e']; rfl)
    exact ⟨v, h1, h2⟩
/-- xs[i] of a list -/
theorem lx_ix {g : τ1 → List α} {E1 : Enc α} {fb : P1 → (Int → P2 → Option Ω) → Option Ω} (hv : LVw S1 (it E1) g) (ha : LO X G env a S1 e1 fa) (hb : ∀ p1, LX X (e1 p1) b (it eI) (e2 p1) (fb p1)) (hg : ∀ p1 p2, G (e2 p1 p2)) (hp : PlainIx b := by exact fun _ _ => rfl) :
    LX X env (.Subscript a b pos) (it E1) (fun p : P1 × P2 => e2 p.1 p.2) (fun k => fa fun x p1 => fb p1 fun i p2 => (atI (g x) i).bind fun y => k y (p1, p2)) :=
  fun C F H σs es σ k ω Q hK hl h hk q => tE.of X (pe_ix ix_list (peC X) (peC X) hp) (op2_run ha (fun p1 => lo_of (hb p1)) hg (fun _ _ => trivial) hK hl h hk
    fun x p1 i p2 v u F' H' fp fq hk' h' r1 r2 => by
      obtain ⟨y, hy, hk'⟩ := bind_some hk'
      obtain ⟨_, r2⟩ := r2
      cases r2
      obtain ⟨p, vs, fps, rfl, hs, ra⟩ := hv.view h'.sF r1
      obtain ⟨w, hw, rw'⟩ := ra.zero.2.at hy
      exact ⟨p, vs, i, w, rfl, rfl, by rw [← hK]; exact hs, hw, q y (p1, p2) w F' H' hk' (h'.pushSh rw')⟩)
/-- .. of a tuple of one kind -/
theorem lx_ixV {g : τ1 → List α} {E1 : Enc α} {fb : P1 → (Int → P2 → Option Ω) → Option Ω} (hv : TVw S1 (it E1) g) (ha : LO X G env a S1 e1 fa) (hb : ∀ p1, LX X (e1 p1) b (it eI) (e2 p1) (fb p1)) (hg : ∀ p1 p2, G (e2 p1 p2)) (hp : PlainIx b := by exact fun _ _ => rfl) :
    LX X env (.Subscript a b pos) (it E1) (fun p : P1 × P2 => e2 p.1 p.2) (fun k => fa fun x p1 => fb p1 fun i p2 => (atI (g x) i).bind fun y => k y (p1, p2)) :=
  fun C F H σs es σ k ω Q hK hl h hk q => tE.of X (pe_ix ix_tup (peC X) (peC X) hp) (op2_run ha (fun p1 => lo_of (hb p1)) hg (fun _ _ => trivial) hK hl h hk
    fun x p1 i p2 v u F' H' fp fq hk' h' r1 r2 => by
      obtain ⟨y, hy, hk'⟩ := bind_some hk'
      obtain ⟨_, r2⟩ := r2
      cases r2
      obtain ⟨p, vs, fps, rfl, hs, ra⟩ := hv.view h'.sF r1
      obtain ⟨w, hw, rw'⟩ := ra.zero.2.at hy
      exact ⟨p, vs, i, w, rfl, rfl, by rw [← hK]; exact hs, hw, q y (p1, p2) w F' H' hk' (h'.pushSh rw')⟩)
/-- the n-th part of a tuple that has parts of its own kinds -/
structure Part (E : Enc τ) (n : Int) (E1 : Enc α) (g : τ → α) : Prop where
  is : ∀ x, ∃ ds, E.enc x = .tuple ds ∧ atI ds n = some (E1.enc (g x))
theorem Rep.tup_inv {K : Fg} {F : Hp} {v : V} {ds : List PyData} (h : Rep K F v (.tuple ds)) : ∃ p vs, v = .ref p ∧ SqT K F p vs ∧ RepAll K F vs ds := by
  cases h with
  | tup h1 h2 => exact ⟨_, _, rfl, h1, h2⟩
theorem Rep.lst_inv {K : Fg} {F : Hp} {v : V} {ds : List PyData} (h : Rep K F v (.list ds)) : ∃ p vs, v = .ref p ∧ F p = some (.lst vs) ∧ RepAll K F vs ds := by
  cases h with
  | lst h1 h2 => exact ⟨_, _, rfl, h1, h2⟩
theorem RepAll.atD {K : Fg} {F : Hp} {vs : List V} {ds : List PyData} {i : Int} {y : PyData} (h : RepAll K F vs ds) (e : atI ds i = some y) : ∃ v, atI vs i = some v ∧ Rep K F v y := by
  have hl : vs.length = ds.length := h.length
  unfold atI at e ⊢
  rw [hl]
  cases hj : ixN ds.length i with
  | none => rw [hj] at e; cases e
  | some j =>
    rw [hj] at e
    exact h.get e
theorem lx_part {n : Int} {g : τ1 → α} {E' : Enc α} {j : Nat} {cp : Pos} (hp : Part E1 n E' g) (ha : LX X env a (it E1) e1 fa) :
    LX X env (.Subscript a (.Constant (.int n) j cp) pos) (it E') e1 (fun k => fa fun x p1 => k (g x) p1) :=
  fun C F H σs es σ k ω Q hK hl h hk q => tE.of X (pe_ix ix_tup (peC X) pe_int fun _ _ => rfl) (lo_run (lo_of ha) (fun _ => trivial) hK hl h hk
    fun x p1 v F' H' fp hk' h' r1 => by
      obtain ⟨_, r1⟩ := r1
      obtain ⟨ds, e1, e2⟩ := hp.is x
      rw [e1] at r1
      obtain ⟨p, vs, rfl, h1, h2⟩ := r1.tup_inv
      obtain ⟨w, hw, rw'⟩ := h2.atD e2
      exact ⟨p, vs, n, w, rfl, rfl, by rw [← hK]; exact same_sqT h'.sF h1, hw, q (g x) p1 w F' H' hk' (h'.pushSh rw')⟩)
/-- .. n below 0: -1 -/
theorem lx_partN {n : Int} {g : τ1 → α} {E' : Enc α} {j : Nat} {cp up : Pos} (hp : Part E1 (-n) E' g) (ha : LX X env a (it E1) e1 fa) :
    LX X env (.Subscript a (.UnaryOp .USub (.Constant (.int n) j cp) up) pos) (it E') e1 (fun k => fa fun x p1 => k (g x) p1) :=
  fun C F H σs es σ k ω Q hK hl h hk q => tE.of X (pe_ix ix_tup (peC X) (pe_un un_neg pe_int) fun _ _ => rfl) (lo_run (lo_of ha) (fun _ => trivial) hK hl h hk
    fun x p1 v F' H' fp hk' h' r1 => by
      obtain ⟨_, r1⟩ := r1
      obtain ⟨ds, e1, e2⟩ := hp.is x
      rw [e1] at r1
      obtain ⟨p, vs, rfl, h1, h2⟩ := r1.tup_inv
      obtain ⟨w, hw, rw'⟩ := h2.atD e2
      exact ⟨n, rfl, p, vs, -n, w, rfl, rfl, by rw [← hK]; exact same_sqT h'.sF h1, hw, q (g x) p1 w F' H' hk' (h'.pushSh rw')⟩)
theorem part2_0 {A : Enc α} {B : Enc β} : Part (eT2 A B) 0 A (·.1) := ⟨fun _ => ⟨_, rfl, rfl⟩⟩
theorem part2_1 {A : Enc α} {B : Enc β} : Part (eT2 A B) 1 B (·.2) := ⟨fun _ => ⟨_, rfl, rfl⟩⟩
theorem part3_0 {γ : Type} {A : Enc α} {B : Enc β} {D : Enc γ} : Part (eT3 A B D) 0 A (·.1) := ⟨fun _ => ⟨_, rfl, rfl⟩⟩
theorem part3_1 {γ : Type} {A : Enc α} {B : Enc β} {D : Enc γ} : Part (eT3 A B D) 1 B (·.2.1) := ⟨fun _ => ⟨_, rfl, rfl⟩⟩
theorem part3_2 {γ : Type} {A : Enc α} {B : Enc β} {D : Enc γ} : Part (eT3 A B D) 2 D (·.2.2) := ⟨fun _ => ⟨_, rfl, rfl⟩⟩
theorem part4_0 {γ δ : Type} {A : Enc α} {B : Enc β} {D : Enc γ} {D' : Enc δ} : Part (eT4 A B D D') 0 A (·.1) := ⟨fun _ => ⟨_, rfl, rfl⟩⟩
theorem part4_1 {γ δ : Type} {A : Enc α} {B : Enc β} {D : Enc γ} {D' : Enc δ} : Part (eT4 A B D D') 1 B (·.2.1) := ⟨fun _ => ⟨_, rfl, rfl⟩⟩
theorem part4_2 {γ δ : Type} {A : Enc α} {B : Enc β} {D : Enc γ} {D' : Enc δ} : Part (eT4 A B D D') 2 D (·.2.2.1) := ⟨fun _ => ⟨_, rfl, rfl⟩⟩
theorem part4_3 {γ δ : Type} {A : Enc α} {B : Enc β} {D : Enc γ} {D' : Enc δ} : Part (eT4 A B D D') 3 D' (·.2.2.2) := ⟨fun _ => ⟨_, rfl, rfl⟩⟩
end
end Z

set_option Elab.async false
set_option linter.all false
set_option maxRecDepth 100000
namespace Z
open PySem PySem.Spec PyProof.Rows L2

/-! ### targets -/
def Eqo (ix : List Nat) (σ σ' : List (Option V)) : Prop := σ'.length = σ.length ∧ ∀ j, j ∉ ix → σ'[j]? = σ[j]?
theorem Eqo.refl (ix : List Nat) (σ : List (Option V)) : Eqo ix σ σ := ⟨rfl, fun _ _ => rfl⟩
theorem Eqo.trans {ix : List Nat} {a b c : List (Option V)} (h : Eqo ix a b) (g : Eqo ix b c) : Eqo ix a c := ⟨g.1.trans h.1, fun j m => (g.2 j m).trans (h.2 j m)⟩
theorem Eqo.mono {ix iy : List Nat} {a b : List (Option V)} (h : Eqo ix a b) (s : ∀ j ∈ ix, j ∈ iy) : Eqo iy a b := ⟨h.1, fun j m => h.2 j fun z => m (s j z)⟩
theorem Eqo.set {σ : List (Option V)} {i : Nat} {o : Option V} : Eqo [i] σ (σ.set i o) := ⟨by simp, fun j m => List.getElem?_set_ne (by simp at m; omega)⟩
theorem wipe_get (σ : List (Option V)) : ∀ (vs : List Nat) (j : Nat), (wipe σ vs)[j]? = if j ∈ vs then (if j < σ.length then some none else none) else σ[j]?
  | [], j => by simp [wipe]
  | v :: vs, j => by
    unfold wipe
    by_cases e : v = j
    · subst e
      by_cases hl : v < σ.length
      · rw [List.getElem?_set_self (by rw [wipe_length]; exact hl)]; simp [hl]
      · rw [List.getElem?_eq_none (by rw [List.length_set, wipe_length]; omega)]; simp [hl]
    · rw [List.getElem?_set_ne e, wipe_get σ vs j]
      have : (j ∈ v :: vs) = (j ∈ vs) := by simp; intro z; exact absurd z.symm e
      simp only [this]
theorem Eqo.wipe {ix : List Nat} {a b : List (Option V)} (h : Eqo ix a b) : wipe b ix = wipe a ix := by
  apply List.ext_getElem?
  intro j
  rw [wipe_get, wipe_get, h.1]
  by_cases m : j ∈ ix
  · rw [if_pos m, if_pos m]
  · rw [if_neg m, if_neg m]; exact h.2 j m
section
variable (X : Cx)
def tG (tg : Expr) : TG := fun v σ H Q => ∀ pins s u, Inv X pins σ H s → RelV v u → wpAny (model X.prog X.w) X.A (assign tg X.env u) (fun _ s' => ∃ σ' H', Inv X pins σ' H' s' ∧ Q σ' H') X.xe s
def tGs (ts : List Expr) : TGs := fun vs σ H Q => ∀ pins s us, Inv X pins σ H s → Vals vs us → wpAny (model X.prog X.w) X.A (assignInOrder ((assignEach ts X.env).map (·.2)) us) (fun _ s' => ∃ σ' H', Inv X pins σ' H' s' ∧ Q σ' H') X.xe s
theorem pgC {tg : Expr} : PG X tg (tG X tg) := ⟨fun pins s σ H v u Q I r h => h pins s u I r⟩
theorem pgsC {ts : List Expr} : PGs X ts (tGs X ts) := ⟨fun pins s σ H vs us Q I r h => h pins s us I r⟩
theorem tG.of {tg : Expr} {t : TG} {v : V} {σ : L2.St} {H : Hp} {Q : L2.St → Hp → Prop} (h : PG X tg t) (q : t v σ H Q) : tG X tg v σ H Q := fun pins s u I r => h.run pins s σ H v u Q I r q
theorem tGs.of {ts : List Expr} {t : TGs} {vs : List V} {σ : L2.St} {H : Hp} {Q : L2.St → Hp → Prop} (h : PGs X ts t) (q : t vs σ H Q) : tGs X ts vs σ H Q := fun pins s us I r => h.run pins s σ H vs us Q I r q
/-- a target: where its value goes -/
def LG (ix : List Nat) (env : Env) (tg : Expr) {τ : Type} (S : Stor τ) (envT : τ → Env) : Prop :=
  ∀ (C : Ck) (F H : Hp) (σs : List (Option V)) (es : Env) (σ : List (Option V)) (v : V) (a : τ) (Q : L2.St → Hp → Prop), C.K = X.K → σs.length = es.length → ER C F H (some v :: (σs ++ σ)) (.st none τ S a :: (es ++ env)) →
    (∀ σ', Eqo ix σ σ' → ER C F H (σs ++ σ') (es ++ envT a) → Q σ' H) → tG X tg v σ H Q
/-- targets for the parts of a tuple -/
def LGs (ix : List Nat) (env : Env) (tgs : List Expr) {A : Type} (sl : A → Env) (envT : A → Env) : Prop :=
  ∀ (C : Ck) (F H : Hp) (σs : List (Option V)) (es : Env) (σ : List (Option V)) (vs : List V) (a : A) (Q : L2.St → Hp → Prop), C.K = X.K → σs.length = es.length → (vs.map some).length = (sl a).length → ER C F H (vs.map some ++ (σs ++ σ)) (sl a ++ (es ++ env)) →
    (∀ σ', Eqo ix σ σ' → ER C F H (σs ++ σ') (es ++ envT a) → Q σ' H) → tGs X tgs vs σ H Q
end
section
variable {X : Cx} {Ω : Type} {env : Env} {nm : Str} {pos : Pos} {a b e tg : Expr} {xs tgs : List Expr} {P P1 P2 A : Type} {τ τ1 τ2 α β : Type} {S : Stor τ} {S1 : Stor τ1} {S2 : Stor τ2} {E : Enc τ} {E1 : Enc τ1} {E2 : Enc τ2} {ix : List Nat}
theorem lg_name (i : Nat) (hN : X.N.Nodup) (hi : X.N[i]? = some nm := by rfl) (hx : Loc X.env.scope nm := by first | exact Or.inl rfl | exact Or.inr rfl) (hl : i < env.length := by exact (Nat.lt_of_sub_eq_succ rfl)) (hf : X.fn nm = true ∨ X.env.scope.names.lookup nm = some .local := by first | exact .inl rfl | exact .inr rfl) : LG X [i] env (.Name nm pos) S (fun a => env.set i (.st none τ S a)) :=
  fun C F H σs es σ v a Q hK hls h q => tG.of X (pg_name hN hi hx hf) (q _ Eqo.set (h.asg hls hl))
theorem lgs_nil : LGs X [] env [] (fun _ : Unit => []) (fun _ : Unit => env) := fun C F H σs es σ vs a Q hK hl hv h q => tGs.of X pgs_nil (by
  cases vs with
  | nil => exact ⟨rfl, q σ (Eqo.refl _ _) h⟩
  | cons v vs => simp at hv)
theorem lgs_cons {i1 i2 : List Nat} {env1 : τ → Env} {sl : A → Env} {env2 : τ → A → Env} (h1 : LG X i1 env tg S env1) (h2 : ∀ x, LGs X i2 (env1 x) tgs sl (env2 x))
    (hs : (assignEach (tg :: tgs) X.env).map (·.2) = assign tg X.env :: (assignEach tgs X.env).map (·.2) := by rfl) : LGs X (i1 ++ i2) env (tg :: tgs) (fun p : τ × A => .st none τ S p.1 :: sl p.2) (fun p : τ × A => env2 p.1 p.2) :=
  fun C F H σs es σ vs a Q hK hl hv h q => tGs.of X (pgs_cons (pgC X) (pgsC X) hs) (by
    cases vs with
    | nil => simp at hv
    | cons v vs =>
      have hv' : (vs.map some).length = (sl a.2).length := by simpa using hv
      refine ⟨v, vs, rfl, h1 C F H (vs.map some ++ σs) (sl a.2 ++ es) σ v a.1 _ hK (by simp [hl]; simpa using hv') (by simpa [List.append_assoc] using h) fun σ' e1 h' => ?_⟩
      exact h2 a.1 C F H σs es σ' vs a.2 Q hK hl hv' (by simpa [List.append_assoc] using h') fun σ2 e2 h3 => q σ2 ((e1.mono fun j m => List.mem_append_left _ m).trans (e2.mono fun j m => List.mem_append_right _ m)) h3)
/-- data that stand on the stack as shared slots -/
theorem ER.pushAll {C : Ck} {F H : Hp} : ∀ {sl : Env} {ds : List PyData}, ShL sl ds → ∀ {vs : List V} {σ : List (Option V)} {env : Env}, RepAll C.K F vs ds → ER C F H σ env → (vs.map some).length = sl.length ∧ ER C F H (vs.map some ++ σ) (sl ++ env)
  | _, _, .nil, _, σ, env, r, h => by cases r; exact ⟨rfl, h⟩
  | _, _, .cons q, _, σ, env, r, h => by
    cases r with
    | cons r1 r2 =>
      obtain ⟨e, h'⟩ := ER.pushAll q r2 h
      exact ⟨by simpa using e, h'.pushSh r1⟩
theorem lg_tup {sl : A → Env} {envT : A → Env} {j n : Nat} (h : LGs X ix env tgs sl envT) (g : τ → A) (ds : A → List PyData) (hd : ∀ a, ShL (sl a) (ds a)) (he : ∀ x, E.enc x = .tuple (ds (g x))) (hc : X.calm = true)
    (hz : ∀ a, (sl a).length = n) (hn : (assignEach tgs X.env).length = n := by rfl) (hst : (assignEach tgs X.env).findIdx? (·.1) = none := by rfl) : LG X ix env (.Tuple tgs j pos) (it E) (fun x => envT (g x)) :=
  fun C F H σs es σ v a Q hK hl hr q => tG.of X (pg_tup hc (pgsC X) hn hst) (by
    obtain ⟨v', fp, e1, r⟩ := hr.look (i := 0) rfl
    simp at e1; subst e1
    obtain ⟨_, r⟩ := r
    rw [he] at r
    obtain ⟨p, vs, rfl, h1, h2⟩ := r.tup_inv
    obtain ⟨hlv, h'⟩ := ER.pushAll (hd (g a)) h2 hr.pop
    have hl2 : vs.length = n := by have := hz (g a); simp at hlv; omega
    exact ⟨p, vs, rfl, by rw [← hK]; exact same_sqT hr.sF h1, hl2, h C F H σs es σ vs (g a) Q hK hl hlv h' q⟩)
end

/-! ### what is walked -/
section
variable (X : Cx) {Ω : Type}
def tI (tg iter : Expr) : TI := fun σ H R => ∀ pins s, Inv X pins σ H s → wpAny (model X.prog X.w) X.A (eval iter X.env) (fun v s1 => wpAny (model X.prog X.w) X.A (pyIter v) (PIE X pins σ tg R) X.xe s1) X.xe s
theorem piC {tg iter : Expr} : PI X tg iter (tI X tg iter) := ⟨fun pins s σ H R I h => h pins s I⟩
theorem tI.of {tg iter : Expr} {t : TI} {σ : L2.St} {H : Hp} {R : It → Hp → Prop} (h : PI X tg iter t) (q : t σ H R) : tI X tg iter σ H R := fun pins s I => h.run pins s σ H R I q
/-- J yields xs, as long as the stack's top stands; each item may make new things -/
structure Yields (C : Ck) {α : Type} (S : Stor α) (J : It) (xs : List α) (σx : List (Option V)) (ex : Env) : Prop where
  len : σx.length = ex.length
  go : ∀ (i : Nat) (F H : Hp) (σ2 σb : List (Option V)) (e2 eb : Env), σ2.length = e2.length → ER C F H (σ2 ++ (σx ++ σb)) (e2 ++ (ex ++ eb)) →
    (∀ x, xs[i]? = some x → J.go i H ∧ ∀ v H', J.yld i H v H' → ∃ F', ER C F' H' (some v :: (σ2 ++ (σx ++ σb))) (.st none α S x :: (e2 ++ (ex ++ eb)))) ∧ (xs[i]? = none → J.stop i H)
def LI (env : Env) (tg iter : Expr) {α : Type} (S : Stor α) {P : Type} (env' : P → Env) (f : (List α → P → Option Ω) → Option Ω) : Prop :=
  ∀ (C : Ck) (F H : Hp) (σs : List (Option V)) (es : Env) (σ : List (Option V)) (k : List α → P → Option Ω) (ω : Ω) (R : It → Hp → Prop), C.K = X.K → σs.length = es.length → ER C F H (σs ++ σ) (es ++ env) → f k = some ω →
    (∀ xs p J F' H' (σx : List (Option V)) (ex : Env), k xs p = some ω → ER C F' H' (σx ++ (σs ++ σ)) (ex ++ (es ++ env' p)) → Yields C S J xs σx ex → R J H') → tI X tg iter σ H R
end
section
variable {X : Cx} {Ω : Type} {env : Env} {nm : Str} {pos : Pos} {a b e tg : Expr} {xs tgs : List Expr} {P P1 P2 A : Type} {τ τ1 τ2 α β : Type} {S : Stor τ} {S1 : Stor τ1} {S2 : Stor τ2} {E : Enc τ} {E1 : Enc τ1} {E2 : Enc τ2} {ix : List Nat} {e' : P → Env} {e1 : P1 → Env} {e2 : P1 → P2 → Env}
theorem li_list {g : τ → List α} {Ea : Enc α} {f : (τ → P → Option Ω) → Option Ω} (hv : LVw S (it Ea) g) (h : LX X env e S e' f) : LI X env tg e (it Ea) e' (fun k => f fun x p => k (g x) p) :=
  fun C F H σs es σ k ω R hK hl hr hk q => tI.of X (pi_list (peC X)) (h C F H σs es σ _ ω _ hK hl hr hk fun x p v F' H' hk' h' => by
    obtain ⟨v', fp, e1, r⟩ := h'.look (i := 0) rfl
    simp at e1; subst e1
    obtain ⟨p0, vs, fps, rfl, hs, ra⟩ := hv.view h'.sF r
    refine ⟨p0, rfl, ⟨vs, by rw [← hK]; exact hs⟩, q (g x) p (Itl X.K p0) F' H' [some (.ref p0)] [.st none τ S x] hk' h' ⟨rfl, fun i F2 H2 σ2 σb e2 eb hl2 h2 => ?_⟩⟩
    obtain ⟨v', fp', e1, r'⟩ := h2.look (i := e2.length + 0) (by rw [at_app _ rfl]; rfl)
    rw [at_app _ hl2] at e1
    simp at e1; subst e1
    obtain ⟨p1, ws, fps', e3, hs', ra'⟩ := hv.view h2.sF r'
    cases e3
    rw [hK] at hs'
    have rp := ra'.zero.2
    refine ⟨fun y hy => ?_, fun hn => ?_⟩
    · obtain ⟨w, hw, rw'⟩ := rp.get (i := i) (d := Ea.enc y) (by rw [List.getElem?_map, hy]; rfl)
      refine ⟨⟨ws, w, hs', hw⟩, fun v H' hy' => ⟨F2, ?_⟩⟩
      obtain ⟨e4, hy'⟩ := hy'
      have := hy' ws hs'
      rw [hw] at this; cases this
      rw [e4]
      exact h2.pushSh rw'
    · refine ⟨ws, hs', ?_⟩
      have := rp.length
      simp at this
      have := List.getElem?_eq_none_iff.mp hn
      omega)
/-- the ints of a range -/
def rangeL (lo hi : Int) : List Int := (List.range (hi - lo).toNat).map fun i => lo + (i : Nat)
def rgOk (lo hi : Int) : Bool := decide (-(2 ^ 62) ≤ lo ∧ lo < 2 ^ 62 ∧ -(2 ^ 62) ≤ hi ∧ hi < 2 ^ 62)
theorem yields_range {C : Ck} {lo : Int} {hi : Int} : Yields C (it eI) (Itr lo (hi - lo).toNat) (rangeL lo hi) [] [] := ⟨rfl, fun i F H σ2 σb e2 eb hl2 h2 => by
  refine ⟨fun y hy => ?_, fun hn => ?_⟩
  · unfold rangeL at hy
    rw [List.getElem?_map] at hy
    by_cases hi : i < (hi - lo).toNat
    · rw [List.getElem?_range hi] at hy
      simp at hy; subst hy
      refine ⟨hi, fun v H' hy' => ⟨F, ?_⟩⟩
      obtain ⟨e1, e2⟩ := hy'
      rw [e1, e2]
      exact h2.pushSh (.int _)
    · rw [List.getElem?_eq_none (by simpa using hi)] at hy; cases hy
  · unfold rangeL at hn
    rw [List.getElem?_eq_none_iff] at hn
    simp at hn
    show (hi - lo).toNat ≤ i
    omega⟩
theorem li_range2 {f1 : (Int → P1 → Option Ω) → Option Ω} {f2 : P1 → (Int → P2 → Option Ω) → Option Ω} {p : Pos} (hg : Gl X "range") (hm : X.mg "range" = none) (h1 : LX X env a (it eI) e1 f1) (h2 : ∀ p1, LX X (e1 p1) b (it eI) (e2 p1) (f2 p1))
    (hs : starEach [a, b] X.env = [(false, eval a X.env), (false, eval b X.env)] := by rfl) (hs2 : starEach [b] X.env = [(false, eval b X.env)] := by rfl) (hs3 : starEach [a, b] X.env = (false, eval a X.env) :: starEach [b] X.env := by rfl) (hs4 : starEach [b] X.env = (false, eval b X.env) :: starEach [] X.env := by rfl) :
    LI X env tg (.Call (.Name "range" p) [a, b] [] pos) (it eI) (fun q : P1 × P2 => e2 q.1 q.2) (fun k => f1 fun x p1 => f2 p1 fun y p2 => ck (rgOk x y) (k (rangeL x y) (p1, p2))) :=
  fun C F H σs es σ k ω R hK hl hr hk q => tI.of X (pi_range2 hg hm (pa_cons (peC X) (pa_cons (peC X) pa_nil hs4) hs3) hs hs2) (op2_run (lo_of h1) (fun p1 => lo_of (h2 p1)) (fun _ _ => trivial) (fun _ _ => trivial) hK hl hr hk
    fun x p1 y p2 v u F' H' fp fq hk' h' r1 r2 => by
      obtain ⟨hc, hk'⟩ := ck_some hk'
      obtain ⟨_, r1⟩ := r1
      obtain ⟨_, r2⟩ := r2
      cases r1; cases r2
      exact ⟨x, y, rfl, of_decide_eq_true (p := -(2 ^ 62) ≤ x ∧ x < 2 ^ 62 ∧ -(2 ^ 62) ≤ y ∧ y < 2 ^ 62) hc, q (rangeL x y) (p1, p2) _ F' H' [] [] hk' h' yields_range⟩)
theorem li_range1 {f1 : (Int → P1 → Option Ω) → Option Ω} {p : Pos} (hg : Gl X "range") (hm : X.mg "range" = none) (h1 : LX X env a (it eI) e1 f1)
    (hs : starEach [a] X.env = [(false, eval a X.env)] := by rfl) (hs4 : starEach [a] X.env = (false, eval a X.env) :: starEach [] X.env := by rfl) :
    LI X env tg (.Call (.Name "range" p) [a] [] pos) (it eI) e1 (fun k => f1 fun y p1 => ck (rgOk 0 y) (k (rangeL 0 y) p1)) :=
  fun C F H σs es σ k ω R hK hl hr hk q => tI.of X (pi_range1 hg hm (pa_cons (peC X) pa_nil hs4) hs) (lo_run (lo_of h1) (fun _ => trivial) hK hl hr hk
    fun y p1 v F' H' fp hk' h' r1 => by
      obtain ⟨hc, hk'⟩ := ck_some hk'
      obtain ⟨_, r1⟩ := r1
      cases r1
      have hc' := of_decide_eq_true (p := -(2 ^ 62) ≤ (0 : Int) ∧ (0 : Int) < 2 ^ 62 ∧ -(2 ^ 62) ≤ y ∧ y < 2 ^ 62) hc
      have e0 : (y - 0).toNat = y.toNat := by omega
      refine ⟨y, rfl, hc'.2.2.1, hc'.2.2.2, ?_⟩
      rw [← e0]
      exact q (rangeL 0 y) p1 _ F' H' [] [] hk' h' yields_range)
end

/-! ### statements -/
/-- a loop over items: go on, or out -/
def forO {α S Ω : Type} : List α → S → (α → S → (S → Option Ω) → Option Ω) → (S → Option Ω) → Option Ω
  | [], s, _, k => k s
  | x :: xs, s, b, k => b x s fun s' => forO xs s' b k
/-- a loop with fuel -/
def whileO {S Ω : Type} : Nat → S → (S → (S → Option Ω) → Option Ω) → Option Ω
  | 0, _, _ => none
  | n + 1, s, b => b s fun s' => whileO n s' b
section
variable {X : Cx} {R I Ω : Type} {SR : Stor R} {envR : I → Env} {kr : R → I → Option Ω} {bk ct : Lp Ω} {env : Env} {nm : Str} {pos : Pos} {c e tg iter : Expr} {sts sa sb rest : List Stmt} {P A : Type} {τ α : Type} {S : Stor τ} {Sa : Stor α} {e' : P → Env} {ix : List Nat} {J J1 : Type} {envJ : J → Env} {env1 : J1 → Env}
theorem lb_end (j : J) (hs : Sub env (envJ j)) : LB X SR envR kr bk ct env [] envJ (fun kn => kn j) :=
  fun C F H σs es σ kn ω D hK hl h hk qn qb qc qr => tSs.of X pss_nil (qn j F H σ hk (h.subF hs))
theorem lb_sub {env0 : Env} {f : (J → Option Ω) → Option Ω} (hs : Sub env env0) (h : LB X SR envR kr bk ct env0 sts envJ f) : LB X SR envR kr bk ct env sts envJ f :=
  fun C F H σs es σ kn ω D hK hl hr hk qn qb qc qr => h C F H σs es σ kn ω D hK hl (hr.subF hs) hk qn qb qc qr
/-- a slot is shared from here on -/
theorem lb_frz {E : Enc τ} {x : τ} {f : (J → Option Ω) → Option Ω} (i : Nat) (fz : Frz S E) (he : env[i]? = some (.st none τ S x)) (h : LB X SR envR kr bk ct (env.set i (.st none τ (it E) x)) sts envJ f) : LB X SR envR kr bk ct env sts envJ f :=
  fun C F H σs es σ kn ω D hK hl hr hk qn qb qc qr => by
    obtain ⟨F', sF, h'⟩ := hr.freeze (i := es.length + i) fz (by rw [at_app _ rfl]; exact he)
    rw [List.set_append_right _ _ (Nat.le_add_right _ _), Nat.add_sub_cancel_left] at h'
    exact h C F' H σs es σ kn ω D hK hl h' hk qn qb qc qr
theorem lb_asg {f : (τ → P → Option Ω) → Option Ω} {fr : τ → P → (J → Option Ω) → Option Ω} {envT : P → τ → Env} (he : LX X env e S e' f) (hg : ∀ p, LG X ix (e' p) tg S (envT p)) (hr : ∀ x p, LB X SR envR kr bk ct (envT p x) rest envJ (fr x p))
    (hs : swapsWithSole [tg] e pos.line X.env = pure false := by rfl) (hw : swappedStores [tg] e X.env = pure none := by rfl) (h1 : (assignEach [tg] X.env).map (·.2) = [assign tg X.env] := by rfl) :
    LB X SR envR kr bk ct env (.Assign [tg] e pos :: rest) envJ (fun kn => f fun x p => fr x p kn) :=
  fun C F H σs es σ kn ω D hK hl h hk qn qb qc qr => tSs.of X (pss_cons (ps_asg (peC X) (pgC X) hs hw h1) (pssC X)) (he C F H σs es σ _ ω _ hK hl h hk fun x p v F' H' hk' h' =>
    hg p C F' H' σs es σ v x _ hK hl h' fun σ' _ h2 => hr x p C F' H' σs es σ' kn ω D hK hl h2 hk' qn qb qc qr)
theorem lb_set {f : (τ → P → Option Ω) → Option Ω} {fr : τ → P → (J → Option Ω) → Option Ω} {pos' : Pos} (i : Nat) (hN : X.N.Nodup) (he : LX X env e S e' f) (hr : ∀ x p, LB X SR envR kr bk ct ((e' p).set i (.st none τ S x)) rest envJ (fr x p))
    (hi : X.N[i]? = some nm := by rfl) (hx : Loc X.env.scope nm := by first | exact Or.inl rfl | exact Or.inr rfl) (hlt : ∀ p, i < (e' p).length := by exact (fun _ => Nat.lt_of_sub_eq_succ rfl)) (hf : X.fn nm = true ∨ X.env.scope.names.lookup nm = some .local := by first | exact .inl rfl | exact .inr rfl) (hs : swapsWith e (some (.Name nm pos')) pos.line X.env = pure false := by rfl) :
    LB X SR envR kr bk ct env (.Assign [.Name nm pos'] e pos :: rest) envJ (fun kn => f fun x p => fr x p kn) :=
  fun C F H σs es σ kn ω D hK hl h hk qn qb qc qr => tSs.of X (pss_cons (ps_set hN hi hx (peC X) hs hf) (pssC X)) (he C F H σs es σ _ ω _ hK hl h hk fun x p v F' H' hk' h' =>
    hr x p C F' H' σs es (σ.set i (some v)) kn ω D hK hl (h'.asg hl (hlt p)) hk' qn qb qc qr)
theorem lb_if {f : (Bool → P → Option Ω) → Option Ω} {fa fb : P → (J1 → Option Ω) → Option Ω} {fr : J1 → (J → Option Ω) → Option Ω} (hc : LT X env c e' f) (ha : ∀ p, LB X SR envR kr bk ct (e' p) sa env1 (fa p)) (hb : ∀ p, LB X SR envR kr bk ct (e' p) sb env1 (fb p)) (hr : ∀ j, LB X SR envR kr bk ct (env1 j) rest envJ (fr j)) :
    LB X SR envR kr bk ct env (.If c sa sb pos :: rest) envJ (fun kn => f fun b p => if b = true then fa p fun j => fr j kn else fb p fun j => fr j kn) :=
  fun C F H σs es σ kn ω D hK hl h hk qn qb qc qr => tSs.of X (pss_cons (ps_if (ptC X) (pssC X) (pssC X)) (pssC X)) (hc C F H σs es σ _ ω _ hK hl h hk fun b p F' H' hk' h' => by
    cases b with
    | true =>
      rw [if_pos rfl] at hk'
      show if true = true then _ else _
      rw [if_pos rfl]
      exact ha p C F' H' σs es σ _ ω _ hK hl h' hk' (fun j F2 H2 σ2 hk2 h2 => hr j C F2 H2 σs es σ2 kn ω D hK hl h2 hk2 qn qb qc qr) qb qc qr
    | false =>
      rw [if_neg Bool.false_ne_true] at hk'
      show if false = true then _ else _
      rw [if_neg Bool.false_ne_true]
      exact hb p C F' H' σs es σ _ ω _ hK hl h' hk' (fun j F2 H2 σ2 hk2 h2 => hr j C F2 H2 σs es σ2 kn ω D hK hl h2 hk2 qn qb qc qr) qb qc qr)
/-- an if whose body never goes on -/
theorem lb_ifr {f : (Bool → P → Option Ω) → Option Ω} {fa : P → (Empty → Option Ω) → Option Ω} {fr : P → (J → Option Ω) → Option Ω} (hc : LT X env c e' f) (ha : ∀ p, LB X SR envR kr bk ct (e' p) sa (fun z : Empty => z.elim) (fa p)) (hr : ∀ p, LB X SR envR kr bk ct (e' p) rest envJ (fr p)) :
    LB X SR envR kr bk ct env (.If c sa [] pos :: rest) envJ (fun kn => f fun b p => if b = true then fa p (fun z => z.elim) else fr p kn) :=
  fun C F H σs es σ kn ω D hK hl h hk qn qb qc qr => tSs.of X (pss_cons (ps_if (ptC X) (pssC X) pss_nil) (pssC X)) (hc C F H σs es σ _ ω _ hK hl h hk fun b p F' H' hk' h' => by
    cases b with
    | true =>
      rw [if_pos rfl] at hk'
      show if true = true then _ else _
      rw [if_pos rfl]
      exact ha p C F' H' σs es σ _ ω _ hK hl h' hk' (fun z => z.elim) qb qc qr
    | false =>
      rw [if_neg Bool.false_ne_true] at hk'
      show if false = true then _ else _
      rw [if_neg Bool.false_ne_true]
      exact hr p C F' H' σs es σ kn ω D hK hl h' hk' qn qb qc qr)
theorem lb_ret {f : (R → P → Option Ω) → Option Ω} (he : LX X env e SR e' f) (g : P → I) (hs : ∀ p, Sub (e' p) (envR (g p))) : LB X SR envR kr bk ct env (.Return (some e) pos :: rest) envJ (fun _ => f fun x p => kr x (g p)) :=
  fun C F H σs es σ kn ω D hK hl h hk qn qb qc qr => tSs.of X (pss_cons (ps_ret (peC X)) (pssC X)) (he C F H σs es σ _ ω _ hK hl h hk fun x p v F' H' hk' h' =>
    qr x (g p) v F' H' σ hk' (ER.sub h' (.keep ((hs p).pre es))))
theorem lb_brk (j : bk.J) (hs : Sub env (bk.env j)) : LB X SR envR kr bk ct env (.Break pos :: rest) envJ (fun _ => bk.k j) :=
  fun C F H σs es σ kn ω D hK hl h hk qn qb qc qr => tSs.of X (pss_cons ps_break (pssC X)) (qb j F H σ hk (h.subF hs))
theorem lb_cont (j : ct.J) (hs : Sub env (ct.env j)) : LB X SR envR kr bk ct env (.Continue pos :: rest) envJ (fun _ => ct.k j) :=
  fun C F H σs es σ kn ω D hK hl h hk qn qb qc qr => tSs.of X (pss_cons ps_continue (pssC X)) (qc j F H σ hk (h.subF hs))
theorem lb_pass {f : (J → Option Ω) → Option Ω} (hr : LB X SR envR kr bk ct env rest envJ f) : LB X SR envR kr bk ct env (.Pass pos :: rest) envJ f :=
  fun C F H σs es σ kn ω D hK hl h hk qn qb qc qr => tSs.of X (pss_cons ps_pass (pssC X)) (hr C F H σs es σ kn ω D hK hl h hk qn qb qc qr)
/-- an expression for what it does -/
theorem lb_expr {f : (τ → P → Option Ω) → Option Ω} {fr : P → (J → Option Ω) → Option Ω} (he : LX X env e S e' f) (hr : ∀ p, LB X SR envR kr bk ct (e' p) rest envJ (fr p)) (hs : swapsWith e none pos.line X.env = pure false := by rfl) :
    LB X SR envR kr bk ct env (.Expr e pos :: rest) envJ (fun kn => f fun _ p => fr p kn) :=
  fun C F H σs es σ kn ω D hK hl h hk qn qb qc qr => tSs.of X (pss_cons (ps_expr (peC X) hs) (pssC X)) (he C F H σs es σ _ ω _ hK hl h hk fun x p v F' H' hk' h' =>
    hr p C F' H' σs es σ kn ω D hK hl h'.pop hk' qn qb qc qr)
/-- a for; T: what it carries -/
theorem lb_for {T : Type} {envT : T → Env} {envX : T → α → Env} {f : (List α → P → Option Ω) → Option Ω} {fb : α → T → (T → Option Ω) → (T → Option Ω) → (T → Option Ω) → Option Ω} {fr : T → (J → Option Ω) → Option Ω}
    (hp : PassesOwn (model X.prog X.w) X.A X.env X.xe) (hc : X.calm = true) (hi : LI X env tg iter Sa e' f) (t0 : P → T) (h0 : ∀ p, Sub (e' p) (envT (t0 p))) (hg : ∀ t, LG X ix (envT t) tg Sa (envX t))
    (hb : ∀ x t kc kb, LB X SR envR kr ⟨T, envT, kb⟩ ⟨T, envT, kc⟩ (envX t x) sts envT (fun kn => fb x t kn kc kb)) (hr : ∀ t, LB X SR envR kr bk ct (envT t) rest envJ (fr t)) (hs : ∀ x, foldedSetIterable iter X.env x = pure x := by intro _; rfl) :
    LB X SR envR kr bk ct env (.For tg iter sts [] pos :: rest) envJ (fun kn => f fun xs p => forO xs (t0 p) (fun x t kc => fb x t kc kc fun t' => fr t' kn) fun t' => fr t' kn) :=
  fun C F H σs es σ kn ω D hK hl h hk qn qb qc qr => tSs.of X (pss_cons (ps_for hp hc (piC X) (pgC X) (pssC X) hs) (pssC X)) (hi C F H σs es σ _ ω _ hK hl h hk fun xs p Jt F' H' σx ex hk' h' hy => by
    have out : ∀ t F2 H2 σ2, fr t kn = some ω → ER C F2 H2 (σx ++ (σs ++ σ2)) (ex ++ (es ++ envT t)) → tSs X rest D σ2 H2 := fun t F2 H2 σ2 hk2 h2 =>
      hr t C F2 H2 σs es σ2 kn ω D hK hl (h2.popN hy.len) hk2 qn qb qc qr
    refine ⟨fun i m σ2 H2 => m = xs.length - i ∧ i ≤ xs.length ∧ ∃ t F2, ER C F2 H2 (σx ++ (σs ++ σ2)) (ex ++ (es ++ envT t)) ∧ forO (xs.drop i) t (fun x t kc => fb x t kc kc fun t' => fr t' kn) (fun t' => fr t' kn) = some ω,
      ⟨xs.length, by simp, Nat.zero_le _, t0 p, F', h'.sub (((h0 p).pre es).pre ex), by simpa using hk'⟩, ?_⟩
    rintro i m σ2 H2 ⟨rfl, hi, t, F2, h2, hk2⟩
    obtain ⟨y1, y2⟩ := hy.go i F2 H2 [] (σs ++ σ2) [] (es ++ envT t) rfl h2
    by_cases hlt : i < xs.length
    · have ex1 : xs[i]? = some xs[i] := List.getElem?_eq_getElem hlt
      obtain ⟨g1, g2⟩ := y1 _ ex1
      have ed : xs.drop i = xs[i] :: xs.drop (i + 1) := List.drop_eq_getElem_cons hlt
      rw [ed] at hk2
      refine .inr ⟨g1, fun σ3 H3 => ∃ t F3, ER C F3 H3 (σx ++ (σs ++ σ3)) (ex ++ (es ++ envT t)) ∧ forO (xs.drop (i + 1)) t (fun x t kc => fb x t kc kc fun t' => fr t' kn) (fun t' => fr t' kn) = some ω,
        fun σ3 H3 ⟨t3, F3, h3, hk3⟩ => ⟨xs.length - (i + 1), by omega, rfl, hlt, t3, F3, h3, hk3⟩, fun v H3 hv => ?_⟩
      obtain ⟨F3, h3⟩ := g2 v H3 hv
      refine hg t C F3 H3 (σx ++ σs) (ex ++ es) σ2 v xs[i] _ hK (by simp [hl, hy.len]) (by simpa [List.append_assoc] using h3) fun σ4 _ h4 => ?_
      refine hb xs[i] t (fun s' => forO (xs.drop (i + 1)) s' (fun x t kc => fb x t kc kc fun t' => fr t' kn) fun t' => fr t' kn) (fun t' => fr t' kn) C F3 H3 (σx ++ σs) (ex ++ es) σ4 _ ω _ hK (by simp [hl, hy.len]) h4 hk2 ?_ ?_ ?_ ?_
      · intro t5 F5 H5 σ5 hk5 h5; exact ⟨t5, F5, by simpa [List.append_assoc] using h5, hk5⟩
      · intro t5 F5 H5 σ5 hk5 h5; exact out t5 F5 H5 σ5 hk5 (by simpa [List.append_assoc] using h5)
      · intro t5 F5 H5 σ5 hk5 h5; exact ⟨t5, F5, by simpa [List.append_assoc] using h5, hk5⟩
      · intro a5 i5 v5 F5 H5 σ5 hk5 h5
        refine qr a5 i5 v5 F5 H5 σ5 hk5 ?_
        have h6 : ER C F5 H5 (σx ++ (some v5 :: (σs ++ σ5))) (ex ++ (.st none R SR a5 :: (es ++ envR i5))) := by
          have z : ER C F5 H5 ([some v5] ++ (σx ++ (σs ++ σ5))) ([.st none R SR a5] ++ (ex ++ (es ++ envR i5))) := by simpa [List.append_assoc] using h5
          exact ER.unrot z hy.len
        exact h6.popN hy.len
    · have e : i = xs.length := by omega
      subst e
      refine .inl ⟨y2 (by simp), out t F2 H2 σ2 ?_ h2⟩
      simpa [forO] using hk2)
end
end Z

set_option Elab.async false
set_option linter.all false
set_option maxRecDepth 100000
namespace Z
open PySem PySem.Spec PyProof.Rows L2

/-! ### and, or, if-else -/
section
variable (X : Cx) {Ω : Type}
def tW (e : Expr) : TT := fun σ H Q => ∀ whole pins s, Inv X pins σ H s → wpAny (model X.prog X.w) X.A (isTrue e X.env whole) (TP X pins σ Q) X.xe s
theorem pwC {e : Expr} : PW X e (tW X e) := ⟨fun whole pins s σ H Q I h => h whole pins s I⟩
theorem tW.of {e : Expr} {t : TT} {σ : L2.St} {H : Hp} {Q : Bool → Hp → Prop} (h : PW X e t) (q : t σ H Q) : tW X e σ H Q := fun whole pins s I => h.run whole pins s σ H Q I q
def LW (env : Env) (e : Expr) {P : Type} (env' : P → Env) (f : (Bool → P → Option Ω) → Option Ω) : Prop :=
  ∀ (C : Ck) (F H : Hp) (σs : List (Option V)) (es : Env) (σ : List (Option V)) (k : Bool → P → Option Ω) (ω : Ω) (Q : Bool → Hp → Prop), C.K = X.K → σs.length = es.length → ER C F H (σs ++ σ) (es ++ env) → f k = some ω →
    (∀ a p F' H', k a p = some ω → ER C F' H' (σs ++ σ) (es ++ env' p) → Q a H') → tW X e σ H Q
end
section
variable {X : Cx} {Ω : Type} {env : Env} {nm : Str} {pos : Pos} {a b c e : Expr} {xs rest : List Expr} {P P1 P2 P3 A : Type} {τ τ1 τ2 α β : Type} {S : Stor τ} {S1 : Stor τ1} {S2 : Stor τ2} {E : Enc τ} {E1 : Enc τ1} {E2 : Enc τ2}
  {G : Env → Prop} {e' : P → Env} {e1 : P1 → Env} {e2 : P1 → P2 → Env} {e3 : P1 → P3 → Env}
theorem lt_w {f : (Bool → P → Option Ω) → Option Ω} (h : LW X env e e' f) : LT X env e e' f :=
  fun C F H σs es σ k ω Q hK hl hr hk q => tT.of X (pwC X).pt (h C F H σs es σ k ω Q hK hl hr hk q)
theorem lw_and1 {f : (Bool → P → Option Ω) → Option Ω} (h : LT X env a e' f) : LW X env (.BoolOp .And [a] pos) e' f :=
  fun C F H σs es σ k ω Q hK hl hr hk q => tW.of X (pw_and1 (ptC X)) (h C F H σs es σ k ω Q hK hl hr hk q)
theorem lw_or1 {f : (Bool → P → Option Ω) → Option Ω} (h : LT X env a e' f) : LW X env (.BoolOp .Or [a] pos) e' f :=
  fun C F H σs es σ k ω Q hK hl hr hk q => tW.of X (pw_or1 (ptC X)) (h C F H σs es σ k ω Q hK hl hr hk q)
theorem lw_and {fa : (Bool → P1 → Option Ω) → Option Ω} {fb : P1 → (Bool → P2 → Option Ω) → Option Ω} (ha : LT X env a e1 fa) (hb : ∀ p1, LW X (e1 p1) (.BoolOp .And (b :: rest) pos) (e2 p1) (fb p1)) (hs : ∀ p1 p2, Sub (e2 p1 p2) (e1 p1)) :
    LW X env (.BoolOp .And (a :: b :: rest) pos) e1 (fun k => fa fun x p1 => if x = true then fb p1 fun y _ => k y p1 else k false p1) :=
  fun C F H σs es σ k ω Q hK hl hr hk q => tW.of X (pw_and (ptC X) (pwC X)) (ha C F H σs es σ _ ω _ hK hl hr hk fun x p1 F' H' hk' h' => by
    cases x with
    | true => rw [if_pos rfl] at hk' ⊢; exact hb p1 C F' H' σs es σ _ ω Q hK hl h' hk' fun y p2 F2 H2 hk2 h2 => q y p1 F2 H2 hk2 (h2.subF (hs p1 p2))
    | false => rw [if_neg Bool.false_ne_true] at hk' ⊢; exact q false p1 F' H' hk' h')
theorem lw_or {fa : (Bool → P1 → Option Ω) → Option Ω} {fb : P1 → (Bool → P2 → Option Ω) → Option Ω} (ha : LT X env a e1 fa) (hb : ∀ p1, LW X (e1 p1) (.BoolOp .Or (b :: rest) pos) (e2 p1) (fb p1)) (hs : ∀ p1 p2, Sub (e2 p1 p2) (e1 p1)) :
    LW X env (.BoolOp .Or (a :: b :: rest) pos) e1 (fun k => fa fun x p1 => if x = true then k true p1 else fb p1 fun y _ => k y p1) :=
  fun C F H σs es σ k ω Q hK hl hr hk q => tW.of X (pw_or (ptC X) (pwC X)) (ha C F H σs es σ _ ω _ hK hl hr hk fun x p1 F' H' hk' h' => by
    cases x with
    | true => rw [if_pos rfl] at hk' ⊢; exact q true p1 F' H' hk' h'
    | false => rw [if_neg Bool.false_ne_true] at hk' ⊢; exact hb p1 C F' H' σs es σ _ ω Q hK hl h' hk' fun y p2 F2 H2 hk2 h2 => q y p1 F2 H2 hk2 (h2.subF (hs p1 p2)))
/-- as values -/
theorem lx_one {op : BoolOp} {f : (Bool → P → Option Ω) → Option Ω} (h : LX X env a (it eB) e' f) : LX X env (.BoolOp op [a] pos) (it eB) e' f :=
  fun C F H σs es σ k ω Q hK hl hr hk q => tE.of X (pe_one (peC X)) (h C F H σs es σ k ω Q hK hl hr hk q)
theorem ER.topB {C : Ck} {F H : Hp} {v : V} {x : Bool} {σ : List (Option V)} {env : Env} (h : ER C F H (some v :: σ) (.st none Bool (it eB) x :: env)) : v = .bl x := by
  obtain ⟨v', fp, e1, r⟩ := h.look (i := 0) rfl
  simp at e1; subst e1
  obtain ⟨_, r⟩ := r
  cases r; rfl
theorem lx_and {fa : (Bool → P1 → Option Ω) → Option Ω} {fb : P1 → (Bool → P2 → Option Ω) → Option Ω} (ha : LX X env a (it eB) e1 fa) (hb : ∀ p1, LX X (e1 p1) (.BoolOp .And (b :: rest) pos) (it eB) (e2 p1) (fb p1)) (hs : ∀ p1 p2, Sub (e2 p1 p2) (e1 p1)) :
    LX X env (.BoolOp .And (a :: b :: rest) pos) (it eB) e1 (fun k => fa fun x p1 => if x = true then fb p1 fun y _ => k y p1 else k false p1) :=
  fun C F H σs es σ k ω Q hK hl hr hk q => tE.of X (pe_and (peC X) (peC X)) (ha C F H σs es σ _ ω _ hK hl hr hk fun x p1 v F' H' hk' h' => by
    refine ⟨x, h'.topB, ?_⟩
    cases x with
    | true => rw [if_pos rfl] at hk' ⊢; exact hb p1 C F' H' σs es σ _ ω Q hK hl h'.pop hk' fun y p2 u F2 H2 hk2 h2 => q y p1 u F2 H2 hk2 (ER.sub h2 (.keep ((hs p1 p2).pre es)))
    | false => rw [if_neg Bool.false_ne_true] at hk' ⊢; exact q false p1 _ F' H' hk' (h'.pop.pushSh (.bl _)))
theorem lx_or {fa : (Bool → P1 → Option Ω) → Option Ω} {fb : P1 → (Bool → P2 → Option Ω) → Option Ω} (ha : LX X env a (it eB) e1 fa) (hb : ∀ p1, LX X (e1 p1) (.BoolOp .Or (b :: rest) pos) (it eB) (e2 p1) (fb p1)) (hs : ∀ p1 p2, Sub (e2 p1 p2) (e1 p1)) :
    LX X env (.BoolOp .Or (a :: b :: rest) pos) (it eB) e1 (fun k => fa fun x p1 => if x = true then k true p1 else fb p1 fun y _ => k y p1) :=
  fun C F H σs es σ k ω Q hK hl hr hk q => tE.of X (pe_or (peC X) (peC X)) (ha C F H σs es σ _ ω _ hK hl hr hk fun x p1 v F' H' hk' h' => by
    refine ⟨x, h'.topB, ?_⟩
    cases x with
    | true => rw [if_pos rfl] at hk' ⊢; exact q true p1 _ F' H' hk' (h'.pop.pushSh (.bl _))
    | false => rw [if_neg Bool.false_ne_true] at hk' ⊢; exact hb p1 C F' H' σs es σ _ ω Q hK hl h'.pop hk' fun y p2 u F2 H2 hk2 h2 => q y p1 u F2 H2 hk2 (ER.sub h2 (.keep ((hs p1 p2).pre es))))
theorem lx_not {f : (Bool → P → Option Ω) → Option Ω} (h : LX X env a (it eB) e' f) : LX X env (.UnaryOp .Not a pos) (it eB) e' (fun k => f fun x p => k (!x) p) :=
  fun C F H σs es σ k ω Q hK hl hr hk q => tE.of X (pe_not (peC X)) (h C F H σs es σ _ ω _ hK hl hr hk fun x p v F' H' hk' h' => ⟨x, h'.topB, q _ p _ F' H' hk' (h'.pop.pushSh (.bl _))⟩)
theorem lx_if {fc : (Bool → P1 → Option Ω) → Option Ω} {fa : P1 → (τ → P2 → Option Ω) → Option Ω} {fb : P1 → (τ → P3 → Option Ω) → Option Ω} (hc : LT X env c e1 fc) (ha : ∀ p1, LX X (e1 p1) a S (e2 p1) (fa p1)) (hb : ∀ p1, LX X (e1 p1) b S (e3 p1) (fb p1))
    (hs : ∀ p1 p2, Sub (e2 p1 p2) (e1 p1)) (hs3 : ∀ p1 p3, Sub (e3 p1 p3) (e1 p1)) :
    LX X env (.IfExp c a b pos) S e1 (fun k => fc fun x p1 => if x = true then fa p1 fun y _ => k y p1 else fb p1 fun y _ => k y p1) :=
  fun C F H σs es σ k ω Q hK hl hr hk q => tE.of X (pe_ifExp (ptC X) (peC X) (peC X)) (hc C F H σs es σ _ ω _ hK hl hr hk fun x p1 F' H' hk' h' => by
    cases x with
    | true => rw [if_pos rfl] at hk' ⊢; exact ha p1 C F' H' σs es σ _ ω Q hK hl h' hk' fun y p2 u F2 H2 hk2 h2 => q y p1 u F2 H2 hk2 (ER.sub h2 (.keep ((hs p1 p2).pre es)))
    | false => rw [if_neg Bool.false_ne_true] at hk' ⊢; exact hb p1 C F' H' σs es σ _ ω Q hK hl h' hk' fun y p2 u F2 H2 hk2 h2 => q y p1 u F2 H2 hk2 (ER.sub h2 (.keep ((hs3 p1 p2).pre es))))
end

/-! ### while; stores into own lists -/
section
variable {C : Ck} {F F' H H' : Hp} {σ : List (Option V)} {env : Env} {o : Option V} {τ τ0 : Type} {S : Stor τ} {S0 : Stor τ0} {x : τ} {y : τ0} {v : V} {w : Option V} {i : Nat}
/-- the stack's top goes into the objects of slot i -/
theorem ER.absorb (h : ER C F H (o :: σ) (.st none τ0 S0 y :: env)) (e : env[i]? = some (.st w τ S x)) : ∃ v fp v0 fq, σ[i]? = some (some v) ∧ o = some v0 ∧ S.rel C.K F H fp v x ∧ S0.rel C.K F H fq v0 y ∧ (fp ++ fq).Nodup ∧ (∀ a ∈ fp ++ fq, C.B a = none ∧ F a = none ∧ H a ≠ none) ∧
    ∀ (τ' : Type) (S' : Stor τ') (x' : τ') (H' : Hp) (fp' : List Addr), (∀ a, a ∉ fp ++ fq → H a ≠ none → H' a = H a) → (∀ a, H a ≠ none → H' a ≠ none) → S'.rel C.K F H' fp' v x' → fp'.Nodup → (∀ a ∈ fp', H' a ≠ none ∧ (a ∈ fp ++ fq ∨ H a = none)) → ER C F H' σ (env.set i (.st w τ' S' x')) := by
  obtain ⟨fp, q⟩ := h.sl
  obtain ⟨hi, _⟩ := List.getElem?_eq_some_iff.mp e
  obtain ⟨v, e1, r, k⟩ := q.ok (i + 1) _ (by simpa using e)
  obtain ⟨v0, e0, r0, k0⟩ := q.ok 0 _ rfl
  have e1' : σ[i]? = some (some v) := by
    simp at e1
    cases z : σ[i]? with
    | none => rw [z] at e1; cases e1
    | some o => rw [z] at e1; exact congrArg some e1
  have e0' : o = some v0 := by simpa using e0
  have hi1 : i + 1 < (Slot.st none τ0 S0 y :: env).length := by simpa using hi
  have h00 : 0 < (Slot.st none τ0 S0 y :: env).length := by simp
  have ownu : ∀ a ∈ fp (i + 1) ++ fp 0, C.B a = none ∧ F a = none ∧ H a ≠ none := fun a m => by
    rcases List.mem_append.mp m with m | m
    · exact q.own (i + 1) hi1 a m
    · exact q.own 0 h00 a m
  have ndu : (fp (i + 1) ++ fp 0).Nodup := by
    rw [List.nodup_append]
    refine ⟨q.nd (i + 1) hi1, q.nd 0 h00, fun a ha b hb z => ?_⟩
    subst z
    have := q.sep (i + 1) 0 hi1 h00 a ha hb
    omega
  refine ⟨v, fp (i + 1), v0, fp 0, e1', e0', r, r0, ndu, ownu, fun τ' S' x' H' fp' hk hs r' nd' sub => ?_⟩
  have hp := h.pop
  have bne : ∀ a, C.B a ≠ none → a ∉ fp (i + 1) ++ fp 0 := fun a m z => m (ownu a z).1
  have notu : ∀ j, j < env.length → j ≠ i → ∀ a ∈ fp (j + 1), a ∉ fp (i + 1) ++ fp 0 := fun j hj ne a ha z => by
    have hj1 : j + 1 < (Slot.st none τ0 S0 y :: env).length := by simpa using hj
    rcases List.mem_append.mp z with z | z
    · have := q.sep (j + 1) (i + 1) hj1 hi1 a ha z; omega
    · have := q.sep (j + 1) 0 hj1 h00 a ha z; omega
  refine ⟨fun a o m => ?_, fun a o m => ?_, h.gr, fun a m => hs a (h.up a m), by simp [hp.len], fun j => if j = i then fp' else fp (j + 1), fun j s' ej => ?_, fun j hj a ha => ?_, fun j l hj hl a ha hb => ?_, fun j hj => ?_⟩
  · have m' : C.B a ≠ none := by rw [m]; exact fun z => by cases z
    rw [hk a (bne a m') (same_some h.sB m')]; exact h.sB a o m
  · have m' : F a ≠ none := by rw [m]; exact fun z => by cases z
    rw [hk a (fun z => m' (ownu a z).2.1) (same_some h.sF m')]; exact h.sF a o m
  · by_cases z : j = i
    · subst z
      rw [List.getElem?_set_self hi] at ej
      cases ej
      refine ⟨v, by rw [e1']; rfl, ?_, ?_⟩
      · simpa using r'
      · simp only [if_pos]
        cases w with
        | none =>
          intro a ha
          rcases (sub a ha).2 with m | m
          · rcases List.mem_append.mp m with m | m
            · exact k a m
            · exact k0 a m
          · exact h.hnone m
        | some w0 =>
          refine ⟨k.1, fun a ha => ?_⟩
          rcases (sub a ha).2 with m | m
          · rcases List.mem_append.mp m with m | m
            · exact k.2 a m
            · exact .inl (k0 a m)
          · exact .inl (h.hnone m)
    · rw [List.getElem?_set_ne (fun y => z y.symm)] at ej
      have hj : j < env.length := (List.getElem?_eq_some_iff.mp ej).1
      simp only [if_neg z]
      have := q.ok (j + 1) s' (by simpa using ej)
      simp only [List.getElem?_cons_succ] at this
      refine this.go (fun _ _ y => y) (fun a m => hk a (bne a m) (same_some h.sB m)) fun a ha => ?_
      exact hk a (notu j hj z a ha) (q.own (j + 1) (by simpa using hj) a ha).2.2
  · have hj' : j < env.length := by simpa using hj
    by_cases z : j = i
    · subst z
      simp only [if_pos] at ha
      obtain ⟨m1, m⟩ := sub a ha
      rcases m with m | m
      · exact ⟨(ownu a m).1, (ownu a m).2.1, m1⟩
      · exact ⟨h.bnone m, h.fnone m, m1⟩
    · simp only [if_neg z] at ha
      obtain ⟨b, f, c⟩ := q.own (j + 1) (by simpa using hj') a ha
      exact ⟨b, f, hs a c⟩
  · have hj' : j < env.length := by simpa using hj
    have hl' : l < env.length := by simpa using hl
    by_cases zj : j = i
    · by_cases zl : l = i
      · rw [zj, zl]
      · simp only [if_pos zj] at ha
        simp only [if_neg zl] at hb
        rcases (sub a ha).2 with m | m
        · exact absurd m (notu l hl' zl a hb)
        · exact absurd m (q.own (l + 1) (by simpa using hl') a hb).2.2
    · simp only [if_neg zj] at ha
      by_cases zl : l = i
      · simp only [if_pos zl] at hb
        rcases (sub a hb).2 with m | m
        · exact absurd m (notu j hj' zj a ha)
        · exact absurd m (q.own (j + 1) (by simpa using hj') a ha).2.2
      · simp only [if_neg zl] at hb
        have := q.sep (j + 1) (l + 1) (by simpa using hj') (by simpa using hl') a ha hb
        omega
  · have hj' : j < env.length := by simpa using hj
    by_cases z : j = i
    · simp only [if_pos z]; exact nd'
    · simp only [if_neg z]; exact q.nd (j + 1) (by simpa using hj')
theorem RelAll.app {α : Type} {R : List Addr → V → α → Prop} : ∀ {fp : List Addr} {vs : List V} {xs : List α} {fq : List Addr} {v : V} {x : α}, RelAll R fp vs xs → R fq v x → RelAll R (fp ++ fq) (vs ++ [v]) (xs ++ [x])
  | _, _, _, fq, v, x, .nil, h => by simpa using RelAll.cons h .nil
  | _, _, _, fq, v, x, .cons h r, q => by
    rw [List.append_assoc]
    exact .cons h (r.app q)
theorem RelAll.length {α : Type} {R : List Addr → V → α → Prop} : ∀ {fp : List Addr} {vs : List V} {xs : List α}, RelAll R fp vs xs → vs.length = xs.length
  | _, _, _, .nil => rfl
  | _, _, _, .cons _ r => congrArg (· + 1) r.length
end
def SZ : Nat := 16777216
theorem SZ_eq : sizeLine = SZ := sizeLine_eq
section
variable {X : Cx} {R I Ω : Type} {SR : Stor R} {envR : I → Env} {kr : R → I → Option Ω} {bk ct : Lp Ω} {env : Env} {nm : Str} {pos : Pos} {c e tg iter : Expr} {sts sa sb rest : List Stmt} {P P1 P2 A : Type} {τ α : Type} {S : Stor τ} {Sa : Stor α} {e' : P → Env} {ix : List Nat} {J J1 : Type} {envJ : J → Env} {env1 : J1 → Env}
/-- a while, with fuel n -/
theorem lb_while {T Pt : Type} {envT : T → Env} {eT : T → Pt → Env} {fc : T → (Bool → Pt → Option Ω) → Option Ω} {fb : T → Pt → (T → Option Ω) → (T → Option Ω) → (T → Option Ω) → Option Ω} {fr : T → (J → Option Ω) → Option Ω} (n : Nat)
    (hp : PassesOwn (model X.prog X.w) X.A X.env X.xe) (t0 : T) (h0 : Sub env (envT t0)) (hc : ∀ t, LT X (envT t) c (eT t) (fc t)) (hx : ∀ t p, Sub (eT t p) (envT t))
    (hb : ∀ t p kc kb, LB X SR envR kr ⟨T, envT, kb⟩ ⟨T, envT, kc⟩ (eT t p) sts envT (fun kn => fb t p kn kc kb)) (hr : ∀ t, LB X SR envR kr bk ct (envT t) rest envJ (fr t)) :
    LB X SR envR kr bk ct env (.While c sts [] pos :: rest) envJ (fun kn => whileO n t0 fun t kc => fc t fun b p => if b = true then fb t p kc kc fun t' => fr t' kn else fr t kn) :=
  fun C F H σs es σ kn ω D hK hl h hk qn qb qc qr => tSs.of X (pss_cons (ps_while hp (ptC X) (pssC X)) (pssC X)) (by
    have out : ∀ t F2 H2 σ2, fr t kn = some ω → ER C F2 H2 (σs ++ σ2) (es ++ envT t) → tSs X rest D σ2 H2 := fun t F2 H2 σ2 hk2 h2 =>
      hr t C F2 H2 σs es σ2 kn ω D hK hl h2 hk2 qn qb qc qr
    refine ⟨fun m σ2 H2 => ∃ t F2, ER C F2 H2 (σs ++ σ2) (es ++ envT t) ∧ whileO m t (fun t kc => fc t fun b p => if b = true then fb t p kc kc fun t' => fr t' kn else fr t kn) = some ω, ⟨n, t0, F, h.subF h0, hk⟩, ?_⟩
    rintro m σ2 H2 ⟨t, F2, h2, hk2⟩
    cases m with
    | zero => cases hk2
    | succ m =>
      refine hc t C F2 H2 σs es σ2 _ ω _ hK hl h2 hk2 fun b p F3 H3 hk3 h3 => ?_
      cases b with
      | true =>
        rw [if_pos rfl] at hk3 ⊢
        refine ⟨fun σ4 H4 => ∃ t F4, ER C F4 H4 (σs ++ σ4) (es ++ envT t) ∧ whileO m t (fun t kc => fc t fun b p => if b = true then fb t p kc kc fun t' => fr t' kn else fr t kn) = some ω, fun σ4 H4 ⟨t4, F4, h4, hk4⟩ => ⟨m, Nat.lt_succ_self m, t4, F4, h4, hk4⟩, ?_⟩
        refine hb t p (fun s' => whileO m s' fun t kc => fc t fun b p => if b = true then fb t p kc kc fun t' => fr t' kn else fr t kn) (fun t' => fr t' kn) C F3 H3 σs es σ2 _ ω _ hK hl h3 hk3 ?_ ?_ ?_ ?_
        · intro t5 F5 H5 σ5 hk5 h5; exact ⟨t5, F5, h5, hk5⟩
        · intro t5 F5 H5 σ5 hk5 h5; exact out t5 F5 H5 σ5 hk5 h5
        · intro t5 F5 H5 σ5 hk5 h5; exact ⟨t5, F5, h5, hk5⟩
        · intro a5 i5 v5 F5 H5 σ5 hk5 h5; exact qr a5 i5 v5 F5 H5 σ5 hk5 h5
      | false =>
        rw [if_neg Bool.false_ne_true] at hk3 ⊢
        exact out t F3 H3 σ2 hk3 (h3.subF (hx t p)))
/-- x.append(e), x a list of one's own -/
theorem lb_app {f : (α → P → Option Ω) → Option Ω} {fr : α → P → (J → Option Ω) → Option Ω} {w : Option V} {x0 : List α} {xs : P → List α} {ap cp np : Pos} (i : Nat) (h0 : env[i]? = some (.st w (List α) (ls Sa) x0))
    (he : LX X env e Sa e' f) (h1 : ∀ p, (e' p)[i]? = some (.st w (List α) (ls Sa) (xs p))) (hr : ∀ y p, LB X SR envR kr bk ct ((e' p).set i (.st w (List α) (ls Sa) (xs p ++ [y]))) rest envJ (fr y p))
    (hN : X.N[i]? = some nm := by rfl) (hv : Vis X.env.scope nm := by first | exact Or.inl rfl | exact Or.inr (Or.inl rfl) | exact Or.inr (Or.inr rfl))
    (hd : (nm == ("__debug__" : Str)) = false := by decide) (hcd : (nm == ("__classdict__" : Str)) = false := by decide)
    (hbase : attributeBase (.Name nm np) "append" X.env (eval (.Name nm np) X.env) = eval (.Name nm np) X.env := by rfl)
    (hfew : ((backTo cp (starEach [e] X.env)).all (fun x => !x.1) && (backToKw cp (keywordEach [] X.env)).all (fun x => x.1.isSome) && decide ([e].length + ([] : List Keyword).length + (if ([] : List Keyword).isEmpty then 0 else 1) < 30)) = true := by rfl)
    (hline : (ap.endLine == cp.line) = true := by rfl) (hse : starEach [e] X.env = (false, eval e X.env) :: starEach [] X.env := by rfl) (hplain : (backTo cp (starEach [] X.env)).any (·.1) = false := by rfl)
    (hsw : swapsWith (.Call (.Attribute (.Name nm np) "append" ap) [e] [] cp) none pos.line X.env = pure false := by rfl) :
    LB X SR envR kr bk ct env (.Expr (.Call (.Attribute (.Name nm np) "append" ap) [e] [] cp) pos :: rest) envJ (fun kn => f fun y p => ck (decide ((xs p).length < SZ)) (fr y p kn)) :=
  fun C F H σs es σ kn ω D hK hl h hk qn qb qc qr => tSs.of X (pss_cons (ps_expr (pe_bm PySem.F.plainAttrs_list PySem.F.slot_list_append PySem.F.type_list_append mt_append (pe_var hN hv hd hcd) (pa_cons (peC X) pa_nil hse) hbase hfew hline hse hplain) hsw) (pssC X)) (by
    obtain ⟨l, fp, e1, r⟩ := h.lookF hl h0
    obtain ⟨q0, vs0, fps0, rfl, hq0, _, _⟩ := r
    refine ⟨_, e1, .inl ⟨rfl, vs0, SqL.of hq0⟩, he C F H σs es σ _ ω _ hK hl h hk fun y p v F' H' hk' h' => ?_⟩
    obtain ⟨hc, hk'⟩ := ck_some hk'
    obtain ⟨v', fp', v0, fq, e2, e3, r1, r2, nd, ow, fin⟩ := h'.absorb (i := es.length + i) (by rw [at_app _ rfl]; exact h1 p)
    rw [at_app _ hl, e1] at e2
    cases e2; cases e3
    obtain ⟨q1, vs, fps, e4, hq, ra, rfl⟩ := r1
    cases e4
    have hlen := ra.length
    have hc' := of_decide_eq_true hc
    refine ⟨_, vs, _, rfl, rfl, hq, by rw [SZ_eq]; omega, ?_⟩
    have fin' := fin (List α) (ls Sa) (xs p ++ [y]) (upd H' q0 (.lst (vs ++ [v]))) (q0 :: (fps ++ fq)) (fun a na _ => upd_ne fun z => na (by rw [z]; simp)) (fun a m => ?_) ?_ (by simpa using nd) (fun a m => ?_)
    · rw [List.set_append_right _ _ (Nat.le_add_right _ _), Nat.add_sub_cancel_left] at fin'
      exact hr y p C F' _ σs es σ kn ω D hK hl fin' hk' qn qb qc qr
    · by_cases z : a = q0
      · subst z; rw [upd_same]; exact fun z => by cases z
      · rw [upd_ne z]; exact m
    · have nm : q0 ∉ fps ++ fq := by
        have : (q0 :: (fps ++ fq)).Nodup := by simpa using nd
        exact (List.nodup_cons.mp this).1
      refine ⟨q0, vs ++ [v], fps ++ fq, rfl, upd_same, RelAll.imp (fun fr' v' x' s q => Sa.frame (fun a m => upd_ne fun z => nm (z ▸ s a m)) q) (ra.app r2), rfl⟩
    · refine ⟨?_, .inl (by simpa using m)⟩
      by_cases z : a = q0
      · subst z; rw [upd_same]; exact fun z => by cases z
      · rw [upd_ne z]; exact (ow a (by simpa using m)).2.2)
/-- x[j] = e, x a list of one's own whose items are shared -/
theorem lb_setix {E : Enc α} {f : (α → P1 → Option Ω) → Option Ω} {f2 : α → P1 → (Int → P2 → Option Ω) → Option Ω} {fr : α → P1 → Int → P2 → List α → (J → Option Ω) → Option Ω} {e1 : P1 → Env} {e2 : α → P1 → P2 → Env} {w : Option V} {x1 : P1 → List α} {xs : α → P1 → P2 → List α} {ie : Expr} {np sp : Pos} (i : Nat)
    (he : LX X env e (it E) e1 f) (h1 : ∀ p, (e1 p)[i]? = some (.st w (List α) (ls (it E)) (x1 p))) (hi : ∀ y p, LX X (e1 p) ie (it eI) (e2 y p) (f2 y p)) (h2 : ∀ y p p2, (e2 y p p2)[i]? = some (.st w (List α) (ls (it E)) (xs y p p2)))
    (hr : ∀ y p j p2 zs, LB X SR envR kr bk ct ((e2 y p p2).set i (.st w (List α) (ls (it E)) zs)) rest envJ (fr y p j p2 zs))
    (hN : X.N[i]? = some nm := by rfl) (hv : Vis X.env.scope nm := by first | exact Or.inl rfl | exact Or.inr (Or.inl rfl) | exact Or.inr (Or.inr rfl))
    (hd : (nm == ("__debug__" : Str)) = false := by decide) (hcd : (nm == ("__classdict__" : Str)) = false := by decide)
    (ha : ∀ v, assign (.Subscript (.Name nm np) ie sp) X.env v = (do
      let ov ← holding [v] (eval (.Name nm np) X.env)
      let iv ← holding [v, ov] (eval ie X.env)
      standAt sp
      holding [v, ov, iv] (setItem ov iv v)
      release [v, ov, iv] []) := by intro _; rfl)
    (hs : swapsWithSole [.Subscript (.Name nm np) ie sp] e pos.line X.env = pure false := by rfl) (hw : swappedStores [.Subscript (.Name nm np) ie sp] e X.env = pure none := by rfl) (ha1 : (assignEach [.Subscript (.Name nm np) ie sp] X.env).map (·.2) = [assign (.Subscript (.Name nm np) ie sp) X.env] := by rfl) :
    LB X SR envR kr bk ct env (.Assign [.Subscript (.Name nm np) ie sp] e pos :: rest) envJ (fun kn => f fun y p => f2 y p fun j p2 => (ixN (xs y p p2).length j).bind fun n => fr y p j p2 ((xs y p p2).set n y) kn) :=
  fun C F H σs es σ kn ω D hK hl h hk qn qb qc qr => tSs.of X (pss_cons (ps_asg (peC X) (pg_sub (pe_var hN hv hd hcd) (peC X) set_list ha) hs hw ha1) (pssC X)) (he C F H σs es σ _ ω _ hK hl h hk fun y p v F' H' hk' h' => by
    obtain ⟨l, fp, e3, r⟩ := h'.pop.lookF hl (h1 p)
    refine ⟨l, e3, hi y p C F' H' (some v :: σs) (.st none α (it E) y :: es) σ _ ω _ hK (by simp [hl]) h' hk' fun j p2 u F2 H2 hk2 h3 => ?_⟩
    obtain ⟨n, hn, hk2⟩ := bind_some hk2
    have hu : u = .int j := by
      obtain ⟨v', fp, e1, r⟩ := h3.look (i := 0) rfl
      simp at e1; subst e1
      obtain ⟨_, r⟩ := r
      cases r; rfl
    subst hu
    have hv' : Rep C.K F2 v (E.enc y) := by
      obtain ⟨v', fp, e1, r⟩ := h3.look (i := 1) rfl
      simp at e1; subst e1
      exact r.2
    have h4 : ER C F2 H2 (σs ++ σ) (es ++ e2 y p p2) := h3.pop.pop
    obtain ⟨l', fp', e4, r1, nd, ow, fin⟩ := h4.mut (i := es.length + i) (by rw [at_app _ rfl]; exact h2 y p p2)
    rw [at_app _ hl, e3] at e4
    cases e4
    obtain ⟨q1, vs, fps, rfl, hq, ra, rfl⟩ := r1
    obtain ⟨rfl, rp⟩ := ra.zero
    have hlen : vs.length = (xs y p p2).length := by have := rp.length; simpa using this
    refine ⟨q1, vs, j, n, rfl, rfl, hq, by rw [hlen]; exact hn, ?_⟩
    have fin' := fin (List α) (ls (it E)) ((xs y p p2).set n y) (upd H2 q1 (.lst (vs.set n v))) [q1] (fun a na _ => upd_ne fun z => na (by rw [z]; simp)) (fun a m => ?_) ⟨q1, vs.set n v, [], rfl, upd_same, ?_, rfl⟩ (by simp) (fun a m => ?_)
    · rw [List.set_append_right _ _ (Nat.le_add_right _ _), Nat.add_sub_cancel_left] at fin'
      exact hr y p j p2 _ C F2 _ σs es σ kn ω D hK hl fin' hk2 qn qb qc qr
    · by_cases z : a = q1
      · subst z; rw [upd_same]; exact fun z => by cases z
      · rw [upd_ne z]; exact m
    · have := rp.set hv' (i := n)
      rw [← List.map_set] at this
      exact this.zero
    · simp at m; subst m
      exact ⟨by rw [upd_same]; exact (fun z => by cases z), .inl (by simp)⟩)
end
end Z

set_option Elab.async false
set_option linter.all false
set_option maxRecDepth 100000
namespace Z
open PySem PySem.Spec PyProof.Rows L2

/-! ### calls of defs -/
/-- slots that own nothing -/
inductive ShE : Env → Prop
  | nil : ShE []
  | cons {τ : Type} {S : Stor τ} {x : τ} {en : Env} : Cp S → ShE en → ShE (.st none τ S x :: en)
theorem ShE.slot : ∀ {en : Env}, ShE en → ∀ (i : Nat) (s : Slot), en[i]? = some s → ∃ (τ : Type) (S : Stor τ) (x : τ), s = Slot.st none τ S x ∧ Cp S
  | _, .nil, i, s, e => by simp at e
  | _, .cons cp r, 0, s, e => ⟨_, _, _, by simp at e; exact e.symm, cp⟩
  | _, .cons cp r, i + 1, s, e => r.slot i s (by simpa using e)
section
variable {C : Ck} {F F' H H' : Hp} {σ : List (Option V)} {env : Env} {o : Option V} {τ τ0 R : Type} {S : Stor τ} {S0 : Stor τ0} {SR : Stor R} {x : τ} {y : τ0} {v : V} {w : Option V} {i : Nat} {r : R}
theorem lt_of_get {α : Type _} {l : List α} {i : Nat} {a : α} (h : l[i]? = some a) : i < l.length := (List.getElem?_eq_some_iff.mp h).1
/-- into a def: its arguments are shared -/
theorem ER.enter {σa : List (Option V)} {ea : Env} (h : ER C F H (σa ++ σ) (ea ++ env)) (hl : σa.length = ea.length) (sh : ShE ea) : ER ⟨C.K, H, F, H, []⟩ F H σa ea := by
  obtain ⟨fp, q⟩ := h.sl
  refine ⟨fun _ _ e => e, h.sF, fun a m => .inl m, fun a m => m, hl, fun _ => [], fun j s e => ?_, fun j hj a ha => (nomatch ha), fun j l _ _ a ha => (nomatch ha), fun j _ => List.nodup_nil⟩
  have hj := lt_of_get e
  obtain ⟨τ, S, x, rfl, cp⟩ := sh.slot j s e
  obtain ⟨v, e1, r, _⟩ := q.ok j _ (by rw [List.getElem?_append_left hj]; exact e)
  rw [List.getElem?_append_left (by omega)] at e1
  have z := cp.nil r
  rw [z] at r
  exact ⟨v, e1, r, fun _ m => nomatch m⟩
def hun (F G : Hp) : Hp := fun a => match F a with
  | some o => some o
  | none => G a
theorem same_hunL : Same F (hun F F') := fun a o e => by unfold hun; rw [e]
theorem same_hunR (s : Same F H) (s' : Same F' H) : Same F' (hun F F') := fun a o e => by
  unfold hun
  cases q : F a with
  | none => exact e
  | some u =>
    have h1 := s a u q
    have h2 := s' a o e
    rw [h1] at h2
    exact h2
theorem hun_same (s : Same F H) (s' : Same F' H) : Same (hun F F') H := fun a o e => by
  unfold hun at e
  cases q : F a with
  | none => rw [q] at e; exact s' a o e
  | some u' =>
    rw [q] at e
    have e' : u' = o := Option.some.inj e
    rw [← e']
    exact s a u' q
theorem hun_some {a : Addr} (h : hun F F' a ≠ none) : F a ≠ none ∨ F' a ≠ none := by
  unfold hun at h
  cases q : F a with
  | none => rw [q] at h; exact .inr h
  | some u => exact .inl (by intro z; cases z)
theorem hun_none {a : Addr} (h : F a = none) (h' : F' a = none) : hun F F' a = none := by
  unfold hun; rw [h]; exact h'
/-- out of it -/
theorem ER.back (h : ER C F H σ env) (hc : ER ⟨C.K, H, F, H, []⟩ F' H' [some v] [.st none R SR r]) : ∃ F'', ER C F'' H' (some v :: σ) (.st none R SR r :: env) := by
  have sFH : Same F H' := fun a o e => hc.sB a o (h.sF a o e)
  have nw : ∀ a, hun F F' a ≠ none → F a ≠ none ∨ H a = none := fun a m => by
    rcases hun_some m with z | z
    · exact .inl z
    · exact hc.gr a z
  have h2 := h.grow (F' := hun F F') (H' := H') hc.sB same_hunL (hun_same sFH hc.sF) nw
  obtain ⟨fp, q⟩ := h.sl
  have q2 := q.grow h hc.sB (F' := hun F F') same_hunL nw
  obtain ⟨fq, qc⟩ := hc.sl
  obtain ⟨v', e1, rr, ne⟩ := qc.ok 0 _ rfl
  simp at e1; subst e1
  refine ⟨hun F F', h2.sB, h2.sF, h2.gr, h2.up, by simp [h2.len], _, q2.push (fq := fq 0) ⟨v, rfl, SR.monoF (same_hunR sFH hc.sF) rr, fun a m => h.hnone (ne a m)⟩ (fun a m => ?_) (qc.nd 0 (by simp)) fun j hj a ha m => ?_⟩
  · obtain ⟨b, f, c⟩ := qc.own 0 (by simp) a m
    exact ⟨h.bnone b, hun_none (h.fnone b) f, c⟩
  · exact (q.own j hj a ha).2.2 (ne a m)
/-- the promise of a def over shared arguments -/
def spP (K : Fg) {A R : Type} (sl : A → Env) (SR : Stor R) (m : A → Option R) : Sp := fun vs H Q _ => ∃ (B F : Hp) (a : A) (r : R), m a = some r ∧ (vs.map some).length = (sl a).length ∧ ER ⟨K, B, F, H, []⟩ F H (vs.map some) (sl a) ∧
  ∀ F' H' v, ER ⟨K, B, F, H, []⟩ F' H' [some v] [.st none R SR r] → Q v H'
/-- .. that changes its first argument -/
def spI (K : Fg) {A T R : Type} (ST : Stor T) (sl : A → Env) (SR : Stor R) (m : T → A → Option (R × T)) : Sp := fun vs H Q _ => ∃ (B F : Hp) (io : List Addr) (t : T) (a : A) (r : R) (t' : T) (v0 : V) (vs' : List V), vs = v0 :: vs' ∧ m t a = some (r, t') ∧ (vs'.map some).length = (sl a).length ∧
  ER ⟨K, B, F, H, io⟩ F H (vs.map some) (.st (some v0) T ST t :: sl a) ∧ ∀ F' H' v, ER ⟨K, B, F, H, io⟩ F' H' [some v, some v0] [.st none R SR r, .st (some v0) T ST t'] → Q v H'
theorem ER.head {s : Slot} (h : ER C F H (o :: σ) (s :: env)) : ER C F H [o] [s] :=
  h.perm rfl id fun j s' e => by
    cases j with
    | zero => exact .inr ⟨by simpa using e, rfl, fun l _ el _ z => by simpa using z⟩
    | succ j => simp at e
theorem ER.head2 {o2 : Option V} {s s2 : Slot} (h : ER C F H (o :: o2 :: σ) (s :: s2 :: env)) : ER C F H [o, o2] [s, s2] :=
  h.perm rfl id fun j s' e => by
    match j, e with
    | 0, e => exact .inr ⟨by simpa using e, rfl, fun l _ el _ z => by simpa using z⟩
    | 1, e => exact .inr ⟨by simpa using e, rfl, fun l _ el _ z => by simpa using z⟩
    | j + 2, e => simp at e
theorem ER.padR (h : ER C F H σ env) : ∀ n : Nat, ER C F H (σ ++ List.replicate n none) (env ++ List.replicate n .un) := fun n =>
  h.perm (by simp [h.len]) id fun j s' e => by
    by_cases z : j < env.length
    · rw [List.getElem?_append_left z] at e
      exact .inr ⟨e, by rw [List.getElem?_append_left (by rw [h.len]; exact z)]; rfl, fun l _ _ _ y => y⟩
    · rw [List.getElem?_append_right (by omega), List.getElem?_replicate] at e
      split at e
      · exact .inl (Option.some.inj e).symm
      · cases e
end

section
variable {P : Program} {w : World} {K : Fg} {mg : Str → Option Value} {base : Heap}
/-- THE RULE for a def over shared arguments: its body walked -/
theorem fnP {x qual : Str} {st : Stmt} {f : Addr} {fd : FuncData} {N ps : List Str} {k : Nat} {A R : Type} {sl : A → Env} {SR : Stor R} {m : A → Option R} (F : Fun K x qual st f fd) (S : FnScope N ps (defScope st)) (n : Nat) (hn : N.length - ps.length = n) (hl : ∀ a, (sl a).length = ps.length)
    (hb : ∀ (cdv : Value) (A' : Around) (outer : List PySem.Env) (s : Shared) (H : Hp) (E : XK), Room k (A'.deeper (envOfC qual (defScope st) s.heap.objs.size f cdv)) → ∀ a : A,
      LB (cxOf CX0 P w K mg base N qual (defScope st) f cdv A' outer s H E).nox SR (fun _ : Unit => List.replicate (ps.length + n) .un) (fun (r : R) (_ : Unit) => some r) (noLp R) (noLp R) (sl a ++ List.replicate n .un) (defBody st) (fun z : Empty => z.elim) (fun _ => m a)) :
    FnOk P w K mg base CX0 (k + 1) f fd ps (spP K sl SR m) := by
  have hlen : ∀ vs H Q E, spP K sl SR m vs H Q E → vs.length = ps.length := fun vs H Q E h => by
    obtain ⟨B, F0, a, r, _, h2, _⟩ := h
    rw [List.length_map] at h2; rw [h2, hl a]
  refine F.ok S hlen fun cdv A' outer s H vs Q E hr h => ?_
  have hlv := hlen vs H Q E h
  obtain ⟨B, F0, a, r, hm, _, her, q⟩ := h
  refine ⟨_, pssC _, ?_⟩
  have hst : L2.start N vs = vs.map some ++ List.replicate n none := by unfold L2.start; rw [hlv, hn]
  rw [hst]
  refine hb cdv A' outer s H E hr a ⟨K, B, F0, H, []⟩ F0 H [] [] _ (fun z => z.elim) r { nx := fun _ H' => Q .non H', rt := Q } rfl rfl (her.padR n) hm (fun z => z.elim) (fun z => z.elim) (fun z => z.elim) ?_
  intro a' i v F' H' σ' e h'
  cases e
  exact q F' H' v h'.head
/-- .. that changes its first argument -/
theorem fnI {x qual : Str} {st : Stmt} {f : Addr} {fd : FuncData} {N ps : List Str} {k : Nat} {A T R : Type} {ST : Stor T} {sl : A → Env} {SR : Stor R} {m : T → A → Option (R × T)} (F : Fun K x qual st f fd) (S : FnScope N ps (defScope st)) (n : Nat) (hn : N.length - ps.length = n) (hl : ∀ a, (sl a).length + 1 = ps.length)
    (hb : ∀ (cdv : Value) (A' : Around) (outer : List PySem.Env) (s : Shared) (H : Hp) (E : XK), Room k (A'.deeper (envOfC qual (defScope st) s.heap.objs.size f cdv)) → ∀ (v0 : V) (t : T) (a : A),
      LB (cxOf CX0 P w K mg base N qual (defScope st) f cdv A' outer s H E).nox SR (fun t' : T => .st (some v0) T ST t' :: List.replicate (N.length - 1) .un) (fun (r : R) (t' : T) => some (r, t')) (noLp (R × T)) (noLp (R × T)) (.st (some v0) T ST t :: (sl a ++ List.replicate n .un)) (defBody st) (fun z : Empty => z.elim) (fun _ => m t a)) :
    FnOk P w K mg base CX0 (k + 1) f fd ps (spI K ST sl SR m) := by
  have hlen : ∀ vs H Q E, spI K ST sl SR m vs H Q E → vs.length = ps.length := fun vs H Q E h => by
    obtain ⟨B, F0, io, t, a, r, t', v0, vs', rfl, _, h2, _⟩ := h
    rw [List.length_map] at h2; rw [List.length_cons, h2, hl a]
  refine F.ok S hlen fun cdv A' outer s H vs Q E hr h => ?_
  have hlv := hlen vs H Q E h
  obtain ⟨B, F0, io, t, a, r, t', v0, vs', rfl, hm, _, her, q⟩ := h
  refine ⟨_, pssC _, ?_⟩
  have hst : L2.start N (v0 :: vs') = (v0 :: vs').map some ++ List.replicate n none := by unfold L2.start; rw [hlv, hn]
  rw [hst]
  refine hb cdv A' outer s H E hr v0 t a ⟨K, B, F0, H, io⟩ F0 H [] [] _ (fun z => z.elim) (r, t') { nx := fun _ H' => Q .non H', rt := Q } rfl rfl (her.padR n) hm (fun z => z.elim) (fun z => z.elim) (fun z => z.elim) ?_
  intro a' i v F' H' σ' e h'
  cases e
  have hls : σ'.length = N.length - 1 + 1 := by have := h'.len; simpa using this
  cases σ' with
  | nil => simp at hls
  | cons o σ' =>
    have h3 : ER ⟨K, B, F0, H, io⟩ F' H' (some v :: o :: σ') (.st none R SR r :: .st (some v0) T ST t' :: List.replicate (N.length - 1) .un) := h'
    have ho : o = some v0 := by
      obtain ⟨fp, qq⟩ := h3.sl
      obtain ⟨v', e1, _, e2⟩ := qq.ok 1 _ rfl
      simp at e1
      rw [e1, e2.1]
    subst ho
    exact q F' H' v h3.head2
end
section
variable {X : Cx} {Ω : Type} {env : Env} {nm : Str} {pos np : Pos} {e : Expr} {xs : List Expr} {Pt A R T : Type} {SR : Stor R} {ST : Stor T} {e' : Pt → Env} {sl : A → Env} {k : Nat} {f : Addr} {fd : FuncData} {ps : List Str}
/-- f(..) -/
theorem lx_call {m : A → Option R} {fa : (A → Pt → Option Ω) → Option Ω} (Fn : FnOk X.prog X.w X.K X.mg X.base CX0 k f fd ps (spP X.K sl SR m)) (hr : Room k X.A) (hm : X.mg nm = some (.ref f)) (hk : PySem.W.keepIn X.K (.ref f) = true) (hb : Binds X.K fd ps []) (sh : ∀ a, ShE (sl a))
    (ha : LA X env (e :: xs) sl e' fa) (hg : Gl X nm := by rfl) (hdb : (nm == ("__debug__" : Str)) = false := by decide) (he : starEach (e :: xs) X.env = (false, eval e X.env) :: starEach xs X.env := by rfl) (hpl : (backTo pos (starEach xs X.env)).any (·.1) = false := by rfl) :
    LX X env (.Call (.Name nm np) (e :: xs) [] pos) SR e' (fun k => fa fun a p => (m a).bind fun r => k r p) :=
  fun C F H σs es σ k ω Q hK hl h hk' q => tE.of X (pe_call Fn hr hg hm hk hb .nil pass0 (paC X) hdb he hpl) (ha C F H σs es σ _ ω _ hK hl h hk' fun a p vs F' H' hk2 hlv h' => by
    obtain ⟨r, hm', hk2⟩ := bind_some hk2
    show spP X.K sl SR m (vs ++ []) H' Q _
    rw [List.append_nil, ← hK]
    exact ⟨H', F', a, r, hm', hlv, h'.enter hlv (sh a), fun F2 H2 v h2 => by
      obtain ⟨F3, h3⟩ := (h'.popN hlv).back h2
      exact q r p v F3 H2 hk2 h3⟩)
theorem lx_call0 {m : Unit → Option R} (Fn : FnOk X.prog X.w X.K X.mg X.base CX0 k f fd ps (spP X.K (fun _ : Unit => []) SR m)) (hr : Room k X.A) (hm : X.mg nm = some (.ref f)) (hk : PySem.W.keepIn X.K (.ref f) = true) (hb : Binds X.K fd ps [])
    (hg : Gl X nm := by rfl) (hdb : (nm == ("__debug__" : Str)) = false := by decide) :
    LX X env (.Call (.Name nm np) [] [] pos) SR (fun _ : Unit => env) (fun (k : R → Unit → Option Ω) => (m ()).bind fun r => k r ()) :=
  fun C F H σs es σ k ω Q hK hl h hk' q => tE.of X (pe_call0 Fn hr hg hm hk hb .nil pass0 hdb) (by
    obtain ⟨r, hm', hk2⟩ := bind_some hk'
    show spP X.K _ SR m [] H Q E0
    rw [← hK]
    refine ⟨H, F, (), r, hm', rfl, ER.enter (σa := []) (ea := []) h rfl .nil, fun F2 H2 v h2 => ?_⟩
    obtain ⟨F3, h3⟩ := h.back h2
    exact q r () v F3 H2 hk2 h3)
/-- into a def that changes the object of slot i -/
theorem ER.enterI {C : Ck} {F H : Hp} {σ : List (Option V)} {env : Env} {w : Option V} {t : T} {v0 : V} {i : Nat} {σa : List (Option V)} {ea : Env} (h : ER C F H (σa ++ σ) (ea ++ env)) (hl : σa.length = ea.length) (sh : ShE ea) (hi : env[i]? = some (.st w T ST t)) (hv : σ[i]? = some (some v0)) :
    ∃ B io, ER ⟨C.K, B, F, H, io⟩ F H (some v0 :: σa) (.st (some v0) T ST t :: ea) ∧ ∀ (R : Type) (SR : Stor R) (r : R) (t' : T) (F' H' : Hp) (v : V), ER ⟨C.K, B, F, H, io⟩ F' H' [some v, some v0] [.st none R SR r, .st (some v0) T ST t'] →
      ∃ F'', ER C F'' H' (some v :: σ) (.st none R SR r :: env.set i (.st w T ST t')) := by
  have h0 : ER C F H σ env := h.popN hl
  obtain ⟨fp, q⟩ := h0.sl
  have hil := lt_of_get hi
  obtain ⟨v', e1, rr, kk⟩ := q.ok i _ hi
  rw [hv] at e1
  simp at e1; subst e1
  have he := h.enter hl sh
  obtain ⟨fe, qe⟩ := he.sl
  refine ⟨fun a => if a ∈ fp i then none else H a, fp i, ⟨fun a o e => ?_, h0.sF, fun a m => .inl m, fun a m => m, by simp [hl], _, Fps.push (fp := fun _ => []) ⟨fun j s e => ?_, fun j hj a ha => (nomatch ha), fun j l _ _ a ha => (nomatch ha), fun j _ => List.nodup_nil⟩ (fq := fp i) ⟨v0, rfl, rr, rfl, fun a m => .inr m⟩ (fun a m => ⟨if_pos m, (q.own i hil a m).2⟩) (q.nd i hil) fun j _ a ha => (nomatch ha)⟩, ?_⟩
  · have e : (if a ∈ fp i then none else H a) = some o := e
    by_cases m : a ∈ fp i
    · rw [if_pos m] at e; cases e
    · rw [if_neg m] at e; exact e
  · obtain ⟨τ, S, x, rfl, cp⟩ := sh.slot j s e
    obtain ⟨v, e1, r, _⟩ := qe.ok j _ e
    have z := cp.nil r
    rw [z] at r
    exact ⟨v, e1, r, fun _ m => nomatch m⟩
  · intro R SR r t' F' H' v hc
    have bk : ∀ a, H a ≠ none → a ∉ fp i → H' a = H a := fun a m n => by
      cases e : H a with
      | none => exact absurd e m
      | some o => exact hc.sB a o (by show (if a ∈ fp i then none else H a) = _; rw [if_neg n]; exact e)
    have fn : ∀ a, F a ≠ none → a ∉ fp i := fun a m z => m (q.own i hil a z).2.1
    have bn : ∀ a, C.B a ≠ none → a ∉ fp i := fun a m z => m (q.own i hil a z).1
    have sFH : Same F H' := fun a o e => by
      have m : F a ≠ none := by rw [e]; exact fun z => by cases z
      rw [bk a (same_some h0.sF m) (fn a m)]; exact h0.sF a o e
    have up' : ∀ a, H a ≠ none → H' a ≠ none := fun a m => hc.up a m
    obtain ⟨fc, qc⟩ := hc.sl
    obtain ⟨v1, ev1, r1, n1⟩ := qc.ok 0 _ rfl
    obtain ⟨v2, ev2, r2, n2⟩ := qc.ok 1 _ rfl
    simp at ev1 ev2; subst ev1; subst ev2
    have l0 : 0 < ([.st none R SR r, .st (some v0) T ST t'] : Env).length := by simp
    have l1 : 1 < ([.st none R SR r, .st (some v0) T ST t'] : Env).length := by simp
    have i1 : ∀ a ∈ fc 1, H a = none ∨ a ∈ fp i := n2.2
    have sep01 : ∀ a ∈ fc 0, a ∉ fc 1 := fun a m z => by have := qc.sep 0 1 l0 l1 a m z; omega
    have fnn : ∀ a, (H a = none ∨ a ∈ fp i) → F a = none := fun a m => by
      rcases m with m | m
      · exact h0.fnone m
      · exact (q.own i hil a m).2.1
    have bnn : ∀ a, (H a = none ∨ a ∈ fp i) → C.B a = none := fun a m => by
      rcases m with m | m
      · exact h0.bnone m
      · exact (q.own i hil a m).1
    have jH : ∀ j, j < env.length → j ≠ i → ∀ a ∈ fp j, ¬ (H a = none ∨ a ∈ fp i) := fun j hj ne a ha z => by
      rcases z with z | z
      · exact (q.own j hj a ha).2.2 z
      · exact ne (q.sep j i hj hil a ha z)
    refine ⟨hun F F', fun a o e => ?_, hun_same sFH hc.sF, fun a m => ?_, fun a m => up' a (h0.up a m), by simp [h0.len], _, Fps.push (fp := fun j => if j = i then fc 1 else fp j) ⟨fun j s ej => ?_, fun j hj a ha => ?_, fun j l hj hl a ha hb => ?_, fun j hj => ?_⟩ (fq := fc 0) ⟨v, rfl, SR.monoF (same_hunR sFH hc.sF) r1, fun a m => h0.hnone (n1 a m)⟩ (fun a m => ?_) (qc.nd 0 l0) fun j hj a ha m => ?_⟩
    · have m : C.B a ≠ none := by rw [e]; exact fun z => by cases z
      rw [bk a (same_some h0.sB m) (bn a m)]; exact h0.sB a o e
    · rcases hun_some m with z | z
      · exact h0.gr a z
      · rcases hc.gr a z with y | y
        · exact h0.gr a y
        · exact .inr (h0.hnone y)
    · by_cases z : j = i
      · subst z
        rw [List.getElem?_set_self hil] at ej
        cases ej
        simp only [if_pos]
        refine ⟨v0, by rw [hv]; rfl, ST.monoF (same_hunR sFH hc.sF) r2, ?_⟩
        cases w with
        | none =>
          intro a ha
          rcases i1 a ha with m | m
          · exact h0.hnone m
          · exact kk a m
        | some w0 =>
          refine ⟨kk.1, fun a ha => ?_⟩
          rcases i1 a ha with m | m
          · exact .inl (h0.hnone m)
          · exact kk.2 a m
      · rw [List.getElem?_set_ne (fun y => z y.symm)] at ej
        have hj := lt_of_get ej
        simp only [if_neg z]
        exact (q.ok j s ej).go same_hunL (fun a m => bk a (same_some h0.sB m) (bn a m)) fun a ha => bk a (q.own j hj a ha).2.2 fun y => jH j hj z a ha (.inr y)
    · have hj' : j < env.length := by simpa using hj
      by_cases z : j = i
      · simp only [if_pos z] at ha
        exact ⟨bnn a (i1 a ha), hun_none (fnn a (i1 a ha)) (qc.own 1 l1 a ha).2.1, (qc.own 1 l1 a ha).2.2⟩
      · simp only [if_neg z] at ha
        obtain ⟨b, f, c⟩ := q.own j hj' a ha
        refine ⟨b, hun_none f ?_, up' a c⟩
        cases e : F' a with
        | none => rfl
        | some o =>
          rcases hc.gr a (by rw [e]; exact fun z => by cases z) with y | y
          · exact absurd f y
          · exact absurd y c
    · have hj' : j < env.length := by simpa using hj
      have hl' : l < env.length := by simpa using hl
      by_cases zj : j = i
      · by_cases zl : l = i
        · rw [zj, zl]
        · simp only [if_pos zj] at ha
          simp only [if_neg zl] at hb
          exact absurd (i1 a ha) (jH l hl' zl a hb)
      · simp only [if_neg zj] at ha
        by_cases zl : l = i
        · simp only [if_pos zl] at hb
          exact absurd (i1 a hb) (jH j hj' zj a ha)
        · simp only [if_neg zl] at hb
          exact q.sep j l hj' hl' a ha hb
    · have hj' : j < env.length := by simpa using hj
      by_cases z : j = i
      · simp only [if_pos z]; exact qc.nd 1 l1
      · simp only [if_neg z]; exact q.nd j hj'
    · have := n1 a m
      exact ⟨h0.bnone this, hun_none (h0.fnone this) (qc.own 0 l0 a m).2.1, (qc.own 0 l0 a m).2.2⟩
    · have hj' : j < env.length := by simpa using hj
      by_cases z : j = i
      · simp only [if_pos z] at ha
        exact sep01 a m ha
      · simp only [if_neg z] at ha
        exact (q.own j hj' a ha).2.2 (n1 a m)
/-- f(x, ..), f changes x's object -/
theorem lx_callI {w : Option V} {t0 : T} {t : Pt → T} {m : T → A → Option (R × T)} {fa : (A → Pt → Option Ω) → Option Ω} {vn : Str} {vp : Pos} (i : Nat) (Fn : FnOk X.prog X.w X.K X.mg X.base CX0 k f fd ps (spI X.K ST sl SR m)) (hr : Room k X.A) (hm : X.mg nm = some (.ref f)) (hk : PySem.W.keepIn X.K (.ref f) = true) (hb : Binds X.K fd ps []) (sh : ∀ a, ShE (sl a))
    (h0 : env[i]? = some (.st w T ST t0)) (ha : LA X env xs sl e' fa) (h1 : ∀ p, (e' p)[i]? = some (.st w T ST (t p))) (hN : X.N[i]? = some vn := by rfl) (hv : Vis X.env.scope vn := by first | exact Or.inl rfl | exact Or.inr (Or.inl rfl) | exact Or.inr (Or.inr rfl)) (hd : (vn == ("__debug__" : Str)) = false := by decide) (hcd : (vn == ("__classdict__" : Str)) = false := by decide)
    (hg : Gl X nm := by rfl) (hdb : (nm == ("__debug__" : Str)) = false := by decide) (he : starEach (Expr.Name vn vp :: xs) X.env = (false, eval (Expr.Name vn vp) X.env) :: starEach xs X.env := by rfl) (hpl : (backTo pos (starEach xs X.env)).any (·.1) = false := by rfl) :
    LX X env (.Call (.Name nm np) (.Name vn vp :: xs) [] pos) SR (fun p : Pt × T => (e' p.1).set i (.st w T ST p.2)) (fun k => fa fun a p => (m (t p) a).bind fun r => k r.1 (p, r.2)) :=
  fun C F H σs es σ k ω Q hK hl h hk' q => tE.of X (pe_call Fn hr hg hm hk hb .nil pass0 (paC X) hdb he hpl) (la_lend i h0 hN hv ha hd hcd he C F H σs es σ _ ω _ hK hl h hk' fun a p v0 vs F' H' hk2 hv0 hlv h' => by
    obtain ⟨⟨r, t'⟩, hm', hk2⟩ := bind_some hk2
    show spI X.K ST sl SR m (v0 :: vs ++ []) H' Q _
    rw [List.append_nil, ← hK]
    have h2 : ER C F' H' (vs.map some ++ (σs ++ σ)) (sl a ++ (es ++ e' p)) := h'
    obtain ⟨B, io, g1, g2⟩ := h2.enterI (i := es.length + i) (v0 := v0) hlv (sh a) (by rw [at_app _ rfl]; exact h1 p) (by rw [at_app _ hl]; exact hv0)
    refine ⟨B, F', io, t p, a, r, t', v0, vs, rfl, hm', hlv, g1, fun F2 H2 v h3 => ?_⟩
    obtain ⟨F3, h4⟩ := g2 R SR r t' F2 H2 v h3
    rw [List.set_append_right _ _ (Nat.le_add_right _ _), Nat.add_sub_cancel_left] at h4
    exact q r (p, t') v F3 H2 hk2 h4)
end
end Z

set_option Elab.async false
set_option linter.all false
set_option maxRecDepth 100000
namespace Z
open PySem PySem.Spec PyProof.Rows L2

/-! ### comprehensions -/
def compO {α β S Ω : Type} : List α → S → (α → S → (Option β → S → Option Ω) → Option Ω) → List β → (List β → S → Option Ω) → Option Ω
  | [], s, _, acc, k => k acc s
  | x :: xs, s, b, acc, k => b x s fun o s' => match o with
    | some y => ck (decide (acc.length < SZ)) (compO xs s' b (acc ++ [y]) k)
    | none => compO xs s' b acc k
section
variable {C : Ck} {F F' H H' : Hp} {σ σ' σs : List (Option V)} {env es : Env}
theorem ER.like (h : ER C F H (σs ++ σ) (es ++ env)) (hl : σs.length = es.length) (hl2 : σ'.length = σ.length) (he : ∀ (j : Nat) (s : Slot), env[j]? = some s → s = Slot.un ∨ σ'[j]? = σ[j]?) : ER C F H (σs ++ σ') (es ++ env) := by
  have hls := h.lenF hl
  refine h.perm (by simp [hl, hl2, hls]) id fun j s' e => ?_
  by_cases z : j < es.length
  · exact .inr ⟨e, by rw [id, List.getElem?_append_left (by omega), List.getElem?_append_left (by omega)], fun l _ _ _ y => y⟩
  · obtain ⟨m, rfl⟩ : ∃ m, j = es.length + m := ⟨j - es.length, by omega⟩
    have e' := e
    rw [at_app _ rfl] at e'
    rcases he m s' e' with y | y
    · exact .inl y
    · exact .inr ⟨e, by rw [id, at_app _ hl, at_app _ hl, y], fun l _ _ _ y => y⟩
end
section
variable (X : Cx) {Ω : Type}
def tTl (ifs : List Expr) : TT := fun σ H Q => ∀ pins s, Inv X pins σ H s → wpAny (model X.prog X.w) X.A (forIn ifs true fun c r => if r = true then do let ok ← isTrue c X.env (eval c X.env); pure (ForInStep.yield ok) else pure (ForInStep.yield r)) (TP X pins σ Q) X.xe s
theorem ptsC {ifs : List Expr} : PTs X ifs (tTl X ifs) := ⟨fun pins s σ H Q I h => h pins s I⟩
theorem tTl.of {ifs : List Expr} {t : TT} {σ : L2.St} {H : Hp} {Q : Bool → Hp → Prop} (h : PTs X ifs t) (q : t σ H Q) : tTl X ifs σ H Q := fun pins s I => h.run pins s σ H Q I q
/-- the tests of a comprehension -/
def LTl (env : Env) (ifs : List Expr) {P : Type} (env' : P → Env) (f : (Bool → P → Option Ω) → Option Ω) : Prop :=
  ∀ (C : Ck) (F H : Hp) (σs : List (Option V)) (es : Env) (σ : List (Option V)) (k : Bool → P → Option Ω) (ω : Ω) (Q : Bool → Hp → Prop), C.K = X.K → σs.length = es.length → ER C F H (σs ++ σ) (es ++ env) → f k = some ω →
    (∀ a p F' H', k a p = some ω → ER C F' H' (σs ++ σ) (es ++ env' p) → Q a H') → tTl X ifs σ H Q
end
/-- the contexts of a block's turns -/
structure Blk (X : Cx) (scope : Scope) (Y : Cx) : Prop where
  is : ∃ (s : Shared) (H : Hp) (C : Addr) (cl : List (Str × Addr)) (fp : List Addr), Y = X.blk s H scope (compEnvC scope cl C X.env) fp
section
variable {X : Cx} {Ω : Type} {env : Env} {nm : Str} {pos spos np : Pos} {a b c e elt tg iter : Expr} {ifs : List Expr} {P P1 P2 T : Type} {τ τ1 τ2 α β : Type} {S : Stor τ} {Sa : Stor α} {Sb : Stor β} {E : Enc τ} {e' : P → Env} {scope : Scope} {own : List (Str × Nat)} {ix : List Nat}
theorem ltl_nil : LTl X env [] (fun _ : Unit => env) (fun (k : Bool → Unit → Option Ω) => k true ()) :=
  fun C F H σs es σ k ω Q hK hl hr hk q => tTl.of X pts_nil (q true () F H hk hr)
theorem ltl_one {f : (Bool → P → Option Ω) → Option Ω} (h : LT X env c e' f) : LTl X env [c] e' f :=
  fun C F H σs es σ k ω Q hK hl hr hk q => tTl.of X (pts_one (ptC X)) (h C F H σs es σ k ω Q hK hl hr hk q)
theorem lc_run {envT : T → Env} {envX : T → α → Env} {eT : T → α → P1 → Env} {eE : T → α → P1 → P2 → Env} {f : (List α → P → Option Ω) → Option Ω} {ft : T → α → (Bool → P1 → Option Ω) → Option Ω} {fe : T → α → P1 → (β → P2 → Option Ω) → Option Ω}
    (hi : LI X env tg iter Sa e' f) (s0 : P → T) (h0 : ∀ p, Sub (e' p) (envT (s0 p))) (hu : ∀ (t : T) (i : Nat) (s : Slot), i ∈ own.map (·.2) → (envT t)[i]? = some s → s = Slot.un)
    (hg : ∀ Y, Blk X scope Y → ∀ t, LG Y (own.map (·.2)) (envT t) tg Sa (envX t)) (ht : ∀ Y, Blk X scope Y → ∀ t x, LTl Y (envX t x) ifs (eT t x) (ft t x)) (he : ∀ Y, Blk X scope Y → ∀ t x p, LX Y (eT t x p) elt Sb (eE t x p) (fe t x p))
    (tn : T → α → P1 → P2 → T) (hn : ∀ t x p q, Sub (eE t x p q) (envT (tn t x p q))) (tf : T → α → P1 → T) (hf : ∀ t x p, Sub (eT t x p) (envT (tf t x p)))
    {C : Ck} {F H : Hp} {σs : List (Option V)} {es : Env} {σ : List (Option V)} {k : List β → T → Option Ω} {ω : Ω} {Q : VK} (hK : C.K = X.K) (hl : σs.length = es.length) (h : ER C F H (σs ++ σ) (es ++ env))
    (hk : (f fun xs p => compO xs (s0 p) (fun x t kc => ft t x fun b p1 => if b = true then fe t x p1 fun y p2 => kc (some y) (tn t x p1 p2) else kc none (tf t x p1)) [] k) = some ω)
    (q : ∀ ys t v F' H', k ys t = some ω → ER C F' H' (some v :: (σs ++ σ)) (.st none (List β) (ls Sb) ys :: (es ++ envT t)) → Q v H') :
    tLc (tI X tg iter) (fun v σ H Q => ∀ Y, Blk X scope Y → tG Y tg v σ H Q) (fun σ H Q => ∀ Y, Blk X scope Y → tTl Y ifs σ H Q) (fun σ H Q => ∀ Y, Blk X scope Y → tE Y elt σ H Q) (own.map (·.2)) σ H Q := by
  refine hi C F H σs es σ _ ω _ hK hl h hk fun xs p Jt F' H' σx ex hk' h' hy => ?_
  intro D nD
  have like : ∀ {F2 H2 σp ep t}, σp.length = ep.length → ER C F2 H2 (σp ++ (σx ++ (σs ++ σ))) (ep ++ (ex ++ (es ++ envT t))) → ER C F2 H2 (σp ++ (σx ++ (σs ++ wipe σ (own.map (·.2))))) (ep ++ (ex ++ (es ++ envT t))) := fun {F2 H2 σp ep t} hlp h2 => by
    have h3 : ER C F2 H2 ((σp ++ σx ++ σs) ++ σ) ((ep ++ ex ++ es) ++ envT t) := by simpa [List.append_assoc] using h2
    have := h3.like (σ' := wipe σ (own.map (·.2))) (by simp [hlp, hl, hy.len]) (wipe_length _ _) fun j s e => by
      by_cases m : j ∈ own.map (·.2)
      · exact .inl (hu t j s m e)
      · refine .inr ?_
        rw [wipe_get, if_neg m]
    simpa [List.append_assoc] using this
  have unlike : ∀ {F2 H2 σp ep t σ4}, σp.length = ep.length → σ4.length = σ.length → wipe σ4 (own.map (·.2)) = wipe σ (own.map (·.2)) → ER C F2 H2 (σp ++ (σx ++ (σs ++ σ4))) (ep ++ (ex ++ (es ++ envT t))) → ER C F2 H2 (σp ++ (σx ++ (σs ++ σ))) (ep ++ (ex ++ (es ++ envT t))) := fun {F2 H2 σp ep t σ4} hlp hl4 hw h2 => by
    have h3 : ER C F2 H2 ((σp ++ σx ++ σs) ++ σ4) ((ep ++ ex ++ es) ++ envT t) := by simpa [List.append_assoc] using h2
    have := h3.like (σ' := σ) (by simp [hlp, hl, hy.len]) hl4.symm fun j s e => by
      by_cases m : j ∈ own.map (·.2)
      · exact .inl (hu t j s m e)
      · refine .inr ?_
        have := congrArg (fun l => l[j]?) hw
        simp only [wipe_get, if_neg m] at this
        exact this.symm
    simpa [List.append_assoc] using this
  have hnew : ER C F' (upd H' D (.lst [])) (some (.ref D) :: (σx ++ (σs ++ σ))) (.st none (List β) (ls Sb) [] :: (ex ++ (es ++ e' p))) := h'.newOw nD ⟨D, [], [], rfl, upd_same, .nil, rfl⟩
  refine ⟨fun i m H2 => m = xs.length - i ∧ i ≤ xs.length ∧ ∃ acc t F2, ER C F2 H2 (some (.ref D) :: (σx ++ (σs ++ σ))) (.st none (List β) (ls Sb) acc :: (ex ++ (es ++ envT t))) ∧
    compO (xs.drop i) t (fun x t kc => ft t x fun b p1 => if b = true then fe t x p1 fun y p2 => kc (some y) (tn t x p1 p2) else kc none (tf t x p1)) acc k = some ω,
    ⟨xs.length, by simp, Nat.zero_le _, [], s0 p, F', ER.sub hnew (.keep (((h0 p).pre es).pre ex)), by simpa using hk'⟩, ?_⟩
  rintro i m H2 ⟨rfl, hi', acc, t, F2, h2, hk2⟩
  obtain ⟨y1, y2⟩ := hy.go i F2 H2 [some (.ref D)] (σs ++ σ) [.st none (List β) (ls Sb) acc] (es ++ envT t) rfl h2
  by_cases hlt : i < xs.length
  · have ex1 : xs[i]? = some xs[i] := List.getElem?_eq_getElem hlt
    obtain ⟨g1, g2⟩ := y1 _ ex1
    have ed : xs.drop i = xs[i] :: xs.drop (i + 1) := List.drop_eq_getElem_cons hlt
    rw [ed] at hk2
    refine .inr ⟨g1, fun H3 => ∃ acc t F3, ER C F3 H3 (some (.ref D) :: (σx ++ (σs ++ σ))) (.st none (List β) (ls Sb) acc :: (ex ++ (es ++ envT t))) ∧
      compO (xs.drop (i + 1)) t (fun x t kc => ft t x fun b p1 => if b = true then fe t x p1 fun y p2 => kc (some y) (tn t x p1 p2) else kc none (tf t x p1)) acc k = some ω,
      fun H3 ⟨acc3, t3, F3, h3, hk3⟩ => ⟨xs.length - (i + 1), by omega, rfl, hlt, acc3, t3, F3, h3, hk3⟩, fun v H3 hv Y bY => ?_⟩
    have YK : C.K = Y.K := by obtain ⟨_, _, _, _, _, rfl⟩ := bY.is; exact hK
    obtain ⟨F3, h3⟩ := g2 v H3 hv
    have h3' := like (σp := [some v, some (.ref D)]) (ep := [.st none α Sa xs[i], .st none (List β) (ls Sb) acc]) rfl h3
    have lenp : ((some (.ref D) : Option V) :: (σx ++ σs)).length = ((.st none (List β) (ls Sb) acc : Slot) :: (ex ++ es)).length := by simp [hl, hy.len]
    refine hg Y bY t C F3 H3 (some (.ref D) :: (σx ++ σs)) (.st none (List β) (ls Sb) acc :: (ex ++ es)) (wipe σ (own.map (·.2))) v xs[i] _ YK lenp (by simpa [List.append_assoc] using h3') fun σ4 e4 h4 => ?_
    have hw : wipe σ4 (own.map (·.2)) = wipe (wipe σ (own.map (·.2))) (own.map (·.2)) := e4.wipe
    have hww : wipe (wipe σ (own.map (·.2))) (own.map (·.2)) = wipe σ (own.map (·.2)) := by
      apply List.ext_getElem?
      intro j
      rw [wipe_get, wipe_length, wipe_get]
      by_cases m : j ∈ own.map (·.2)
      · rw [if_pos m, if_pos m]
      · rw [if_neg m, if_neg m]
    have hl4 : σ4.length = σ.length := by rw [e4.1, wipe_length]
    refine ⟨hw.trans hww, fun Y bY => ?_⟩
    have YK : C.K = Y.K := by obtain ⟨_, _, _, _, _, rfl⟩ := bY.is; exact hK
    refine ht Y bY t xs[i] C F3 H3 (some (.ref D) :: (σx ++ σs)) (.st none (List β) (ls Sb) acc :: (ex ++ es)) σ4 _ ω _ YK lenp h4 hk2 fun bb p1 F5 H5 hk5 h5 => ?_
    cases bb with
    | false =>
      rw [if_neg Bool.false_ne_true] at hk5 ⊢
      refine ⟨acc, tf t xs[i] p1, F5, ?_, hk5⟩
      have h6 := ER.subF (σs := some (.ref D) :: (σx ++ σs)) h5 (hf t xs[i] p1)
      exact unlike (σp := [some (.ref D)]) (ep := [.st none (List β) (ls Sb) acc]) rfl hl4 (hw.trans hww) (by simpa [List.append_assoc] using h6)
    | true =>
      rw [if_pos rfl] at hk5 ⊢
      intro Y bY
      have YK : C.K = Y.K := by obtain ⟨_, _, _, _, _, rfl⟩ := bY.is; exact hK
      refine he Y bY t xs[i] p1 C F5 H5 (some (.ref D) :: (σx ++ σs)) (.st none (List β) (ls Sb) acc :: (ex ++ es)) σ4 _ ω _ YK lenp h5 hk5 fun y p2 u F6 H6 hk6 h6 => ?_
      have h7 : ER C F6 H6 (some u :: some (.ref D) :: (σx ++ (σs ++ σ4))) (.st none β Sb y :: .st none (List β) (ls Sb) acc :: (ex ++ (es ++ eE t xs[i] p1 p2))) := by simpa [List.append_assoc] using h6
      obtain ⟨hc, hk6⟩ := ck_some hk6
      obtain ⟨v', fp', v0, fq, e2, e3, r1, r2, nd, ow, fin⟩ := h7.absorb (i := 0) (w := none) (τ := List β) (S := ls Sb) (x := acc) rfl
      simp at e2 e3; subst e2; subst e3
      obtain ⟨q1, vs, fps, e4', hq, ra, rfl⟩ := r1
      cases e4'
      have hlen := ra.length
      have hc' := of_decide_eq_true hc
      refine ⟨vs, hq, by rw [SZ_eq]; omega, acc ++ [y], tn t xs[i] p1 p2, F6, ?_, hk6⟩
      have nm : D ∉ fps ++ fq := by
        have : (D :: (fps ++ fq)).Nodup := by simpa using nd
        exact (List.nodup_cons.mp this).1
      have fin' := fin (List β) (ls Sb) (acc ++ [y]) (upd H6 D (.lst (vs ++ [u]))) (D :: (fps ++ fq)) (fun a na _ => upd_ne fun z => na (by rw [z]; simp)) (fun a m => by
        by_cases z : a = D
        · subst z; rw [upd_same]; exact fun z => by cases z
        · rw [upd_ne z]; exact m) ⟨D, vs ++ [u], fps ++ fq, rfl, upd_same, RelAll.imp (fun fr' v' x' s q => Sb.frame (fun a m => upd_ne fun z => nm (z ▸ s a m)) q) (ra.app r2), rfl⟩ (by simpa using nd) (fun a m => by
        refine ⟨?_, .inl (by simpa using m)⟩
        by_cases z : a = D
        · subst z; rw [upd_same]; exact fun z => by cases z
        · rw [upd_ne z]; exact (ow a (by simpa using m)).2.2)
      have h8 : ER C F6 (upd H6 D (.lst (vs ++ [u]))) ((some (.ref D) :: (σx ++ σs)) ++ σ4) ((.st none (List β) (ls Sb) (acc ++ [y]) :: (ex ++ es)) ++ eE t xs[i] p1 p2) := by simpa [List.append_assoc] using fin'
      have h9 := h8.subF (hn t xs[i] p1 p2)
      exact unlike (σp := [some (.ref D)]) (ep := [.st none (List β) (ls Sb) (acc ++ [y])]) rfl hl4 (hw.trans hww) (by simpa [List.append_assoc] using h9)
  · have e : i = xs.length := by omega
    subst e
    refine .inl ⟨y2 (by simp), q acc t (.ref D) F2 H2 (by simpa [compO] using hk2) ?_⟩
    have h3 : ER C F2 H2 (σx ++ some (.ref D) :: (σs ++ σ)) (ex ++ .st none (List β) (ls Sb) acc :: (es ++ envT t)) := ER.unrot h2 hy.len
    exact h3.popN hy.len
end
end Z

set_option Elab.async false
set_option linter.all false
set_option maxRecDepth 100000
namespace Z
open PySem PySem.Spec PyProof.Rows L2

section
variable {X : Cx} {Ω : Type} {env : Env} {nm : Str} {pos spos np : Pos} {a b c e elt tg iter : Expr} {ifs : List Expr} {P P1 P2 T : Type} {τ τ1 τ2 α β : Type} {S : Stor τ} {Sa : Stor α} {Sb : Stor β} {E : Enc τ} {e' : P → Env} {scope : Scope} {own : List (Str × Nat)} {ix : List Nat}
/-- [elt for tg in iter if ..] -/
theorem lx_lc {envT : T → Env} {envX : T → α → Env} {eT : T → α → P1 → Env} {eE : T → α → P1 → P2 → Env} {f : (List α → P → Option Ω) → Option Ω} {ft : T → α → (Bool → P1 → Option Ω) → Option Ω} {fe : T → α → P1 → (β → P2 → Option Ω) → Option Ω}
    (hc : X.calm = true) (hN : X.N.Nodup) (ok : BlkOk X.N X.env.scope scope own)
    (hi : LI X env tg iter Sa e' f) (s0 : P → T) (h0 : ∀ p, Sub (e' p) (envT (s0 p))) (hu : ∀ (t : T) (i : Nat) (s : Slot), i ∈ own.map (·.2) → (envT t)[i]? = some s → s = Slot.un)
    (hg : ∀ (s : Shared) (H : Hp) (C : Addr) (cl : List (Str × Addr)) (fp : List Addr) t, LG (X.blk s H scope (compEnvC scope cl C X.env) fp) (own.map (·.2)) (envT t) tg Sa (envX t)) (ht : ∀ (s : Shared) (H : Hp) (C : Addr) (cl : List (Str × Addr)) (fp : List Addr) t x, LTl (X.blk s H scope (compEnvC scope cl C X.env) fp) (envX t x) ifs (eT t x) (ft t x)) (he : ∀ (s : Shared) (H : Hp) (C : Addr) (cl : List (Str × Addr)) (fp : List Addr) t x p, LX (X.blk s H scope (compEnvC scope cl C X.env) fp) (eT t x p) elt Sb (eE t x p) (fe t x p))
    (tn : T → α → P1 → P2 → T) (hn : ∀ t x p q, Sub (eE t x p q) (envT (tn t x p q))) (tf : T → α → P1 → T) (hf : ∀ t x p, Sub (eT t x p) (envT (tf t x p)))
    (hs : ∀ x, foldedSetIterable iter X.env x = pure x := by intro _; rfl) :
    LX X env (.ListComp elt [⟨tg, iter, ifs, 0⟩] scope pos) (ls Sb) envT (fun k => f fun xs p => compO xs (s0 p) (fun x t kc => ft t x fun b p1 => if b = true then fe t x p1 fun y p2 => kc (some y) (tn t x p1 p2) else kc none (tf t x p1)) [] k) :=
  fun C F H σs es σ k ω Q hK hl h hk q => tE.of X (pe_lc hc hN (piC X) ok (fun s H C cl fp => ⟨fun pins s' σ H' v u Q I r h => h _ ⟨s, H, C, cl, fp, rfl⟩ pins s' u I r⟩) (fun s H C cl fp => ⟨fun pins s' σ H' Q I h => h _ ⟨s, H, C, cl, fp, rfl⟩ pins s' I⟩) (fun s H C cl fp => ⟨fun pins s' σ H' Q I h => h _ ⟨s, H, C, cl, fp, rfl⟩ pins s' I⟩) hs)
    (lc_run hi s0 h0 hu (fun Y bY => by obtain ⟨s, H, C, cl, fp, rfl⟩ := bY.is; exact hg s H C cl fp) (fun Y bY => by obtain ⟨s, H, C, cl, fp, rfl⟩ := bY.is; exact ht s H C cl fp) (fun Y bY => by obtain ⟨s, H, C, cl, fp, rfl⟩ := bY.is; exact he s H C cl fp) tn hn tf hf hK hl h hk q)
/-- y = [..], y a local of the def, on one line -/
theorem lb_setLc {R I J : Type} {SR : Stor R} {envR : I → Env} {kr : R → I → Option Ω} {bk ct : Lp Ω} {rest : List Stmt} {envJ : J → Env} {fr : List β → T → (J → Option Ω) → Option Ω} {py : Pos}
    {envT : T → Env} {envX : T → α → Env} {eT : T → α → P1 → Env} {eE : T → α → P1 → P2 → Env} {f : (List α → P → Option Ω) → Option Ω} {ft : T → α → (Bool → P1 → Option Ω) → Option Ω} {fe : T → α → P1 → (β → P2 → Option Ω) → Option Ω}
    (hc : X.calm = true) (hN : X.N.Nodup) (ok : BlkOk X.N X.env.scope scope own) (i : Nat)
    (hi : LI X env tg iter Sa e' f) (s0 : P → T) (h0 : ∀ p, Sub (e' p) (envT (s0 p))) (hu : ∀ (t : T) (i : Nat) (s : Slot), i ∈ own.map (·.2) → (envT t)[i]? = some s → s = Slot.un)
    (hg : ∀ (s : Shared) (H : Hp) (C : Addr) (cl : List (Str × Addr)) (fp : List Addr) t, LG (X.blk s H scope (compEnvC scope cl C X.env) fp) (own.map (·.2)) (envT t) tg Sa (envX t)) (ht : ∀ (s : Shared) (H : Hp) (C : Addr) (cl : List (Str × Addr)) (fp : List Addr) t x, LTl (X.blk s H scope (compEnvC scope cl C X.env) fp) (envX t x) ifs (eT t x) (ft t x)) (he : ∀ (s : Shared) (H : Hp) (C : Addr) (cl : List (Str × Addr)) (fp : List Addr) t x p, LX (X.blk s H scope (compEnvC scope cl C X.env) fp) (eT t x p) elt Sb (eE t x p) (fe t x p))
    (tn : T → α → P1 → P2 → T) (hn : ∀ t x p q, Sub (eE t x p q) (envT (tn t x p q))) (tf : T → α → P1 → T) (hf : ∀ t x p, Sub (eT t x p) (envT (tf t x p)))
    (hr : ∀ ys t, LB X SR envR kr bk ct ((envT t).set i (.st none (List β) (ls Sb) ys)) rest envJ (fr ys t)) (hsw : swapsWith (.ListComp elt [⟨tg, iter, ifs, 0⟩] scope pos) (some (.Name nm py)) spos.line X.env = pure true) (hlt : ∀ t, i < (envT t).length := by exact (fun _ => Nat.lt_of_sub_eq_succ rfl)) (hy : X.N[i]? = some nm := by rfl) (hyl : X.env.scope.names.lookup nm = some .local := by rfl)
    (hs : ∀ x, foldedSetIterable iter X.env x = pure x := by intro _; rfl) :
    LB X SR envR kr bk ct env (.Assign [.Name nm py] (.ListComp elt [⟨tg, iter, ifs, 0⟩] scope pos) spos :: rest) envJ
      (fun kn => f fun xs p => compO xs (s0 p) (fun x t kc => ft t x fun b p1 => if b = true then fe t x p1 fun y p2 => kc (some y) (tn t x p1 p2) else kc none (tf t x p1)) [] fun ys t => fr ys t kn) :=
  fun C F H σs es σ kn ω D hK hl h hk qn qb qc qr => tSs.of X (pss_cons (ps_setLc (g := fun v σ H Q => ∀ Y, Blk X scope Y → tG Y tg v σ H Q) (tt := fun σ H Q => ∀ Y, Blk X scope Y → tTl Y ifs σ H Q) (te := fun σ H Q => ∀ Y, Blk X scope Y → tE Y elt σ H Q) hc hN hy hyl hsw (piC X) ok (fun s H C cl fp => ⟨fun pins s' σ H' v u Q I r h => h _ ⟨s, H, C, cl, fp, rfl⟩ pins s' u I r⟩) (fun s H C cl fp => ⟨fun pins s' σ H' Q I h => h _ ⟨s, H, C, cl, fp, rfl⟩ pins s' I⟩) (fun s H C cl fp => ⟨fun pins s' σ H' Q I h => h _ ⟨s, H, C, cl, fp, rfl⟩ pins s' I⟩) hs) (pssC X))
    (lc_run hi s0 h0 hu (fun Y bY => by obtain ⟨s, H, C, cl, fp, rfl⟩ := bY.is; exact hg s H C cl fp) (fun Y bY => by obtain ⟨s, H, C, cl, fp, rfl⟩ := bY.is; exact ht s H C cl fp) (fun Y bY => by obtain ⟨s, H, C, cl, fp, rfl⟩ := bY.is; exact he s H C cl fp) tn hn tf hf hK hl h hk fun ys t v F' H' hk' h' => hr ys t C F' H' σs es (σ.set i (some v)) kn ω D hK hl (h'.asg hl (hlt t)) hk' qn qb qc qr)

/-! ### built-ins over one thing -/
/-- f(e): what comes back is told by data -/
theorem lx_b1 {G : Env → Prop} {id : String} {r : List V → Hp → VK → Prop} {E : Enc β} {g : τ → Option β} {f : (τ → P → Option Ω) → Option Ω} (hcall : CallR X (.builtin id) r) (hm : X.mg nm = none) (hv : bootBuiltins nm = some (.builtin id)) (ha : LO X G env a S e' f) (hG : ∀ p, G (e' p))
    (hr : ∀ K F H fp v x y (Q : VK), K = X.K → Same F H → g x = some y → S.rel K F H fp v x → (∀ u, Rep K F u (E.enc y) → Q u H) → r [v] H Q)
    (hg : Gl X nm := by rfl) (hn : nm ≠ "__name__" := by decide) (hdb : (nm == ("__debug__" : Str)) = false := by decide) (he : starEach (a :: []) X.env = (false, eval a X.env) :: starEach [] X.env := by rfl) (hpl : (backTo pos (starEach [] X.env)).any (·.1) = false := by rfl) :
    LX X env (.Call (.Name nm np) [a] [] pos) (it E) e' (fun k => f fun x p => (g x).bind fun y => k y p) :=
  fun C F H σs es σ k ω Q hK hl h hk q => tE.of X (pe_callB hcall hg hm hv (pa_cons (peC X) pa_nil he) hn hdb he hpl) (lo_run ha hG hK hl h hk fun x p v F' H' fp hk' h' rr => by
    obtain ⟨y, hy, hk'⟩ := bind_some hk'
    exact hr C.K F' H' fp v x y Q hK h'.sF hy rr fun u hu => q y p u F' H' hk' (h'.pushSh hu))
/-- .. that always comes back -/
theorem lx_b1t {G : Env → Prop} {id : String} {r : List V → Hp → VK → Prop} {E : Enc β} {g : τ → β} {f : (τ → P → Option Ω) → Option Ω} (hcall : CallR X (.builtin id) r) (hm : X.mg nm = none) (hv : bootBuiltins nm = some (.builtin id)) (ha : LO X G env a S e' f) (hG : ∀ p, G (e' p))
    (hr : ∀ K F H fp v x (Q : VK), K = X.K → Same F H → S.rel K F H fp v x → (∀ u, Rep K F u (E.enc (g x)) → Q u H) → r [v] H Q)
    (hg : Gl X nm := by rfl) (hn : nm ≠ "__name__" := by decide) (hdb : (nm == ("__debug__" : Str)) = false := by decide) (he : starEach (a :: []) X.env = (false, eval a X.env) :: starEach [] X.env := by rfl) (hpl : (backTo pos (starEach [] X.env)).any (·.1) = false := by rfl) :
    LX X env (.Call (.Name nm np) [a] [] pos) (it E) e' (fun k => f fun x p => k (g x) p) :=
  fun C F H σs es σ k ω Q hK hl h hk q => tE.of X (pe_callB hcall hg hm hv (pa_cons (peC X) pa_nil he) hn hdb he hpl) (lo_run ha hG hK hl h hk fun x p v F' H' fp hk' h' rr =>
    hr C.K F' H' fp v x Q hK h'.sF rr fun u hu => q (g x) p u F' H' hk' (h'.pushSh hu))
/-- .. of a type -/
theorem lx_y1t {G : Env → Prop} {Ty : String} {r : List V → Hp → VK → Prop} {E : Enc β} {g : τ → β} {f : (τ → P → Option Ω) → Option Ω} (hcall : CallR X (.type Ty) r) (hm : X.mg nm = none) (hv : bootBuiltins nm = some (.type Ty)) (ha : LO X G env a S e' f) (hG : ∀ p, G (e' p))
    (hr : ∀ K F H fp v x (Q : VK), K = X.K → Same F H → S.rel K F H fp v x → (∀ u, Rep K F u (E.enc (g x)) → Q u H) → r [v] H Q)
    (hg : Gl X nm := by rfl) (hn : nm ≠ "__name__" := by decide) (hdb : (nm == ("__debug__" : Str)) = false := by decide) (he : starEach (a :: []) X.env = (false, eval a X.env) :: starEach [] X.env := by rfl) (hpl : (backTo pos (starEach [] X.env)).any (·.1) = false := by rfl) :
    LX X env (.Call (.Name nm np) [a] [] pos) (it E) e' (fun k => f fun x p => k (g x) p) :=
  fun C F H σs es σ k ω Q hK hl h hk q => tE.of X (pe_callTy hcall hg hm hv (pa_cons (peC X) pa_nil he) hn hdb he hpl) (lo_run ha hG hK hl h hk fun x p v F' H' fp hk' h' rr =>
    hr C.K F' H' fp v x Q hK h'.sF rr fun u hu => q (g x) p u F' H' hk' (h'.pushSh hu))
/-- .. that makes a new list of shared things -/
theorem lx_b1n {G : Env → Prop} {id : String} {r : List V → Hp → VK → Prop} {E : Enc β} {g : τ → Option (List β)} {f : (τ → P → Option Ω) → Option Ω} (hcall : CallR X (.builtin id) r) (hm : X.mg nm = none) (hv : bootBuiltins nm = some (.builtin id)) (ha : LO X G env a S e' f) (hG : ∀ p, G (e' p))
    (hr : ∀ K F H fp v x y (Q : VK), K = X.K → Same F H → g x = some y → S.rel K F H fp v x → (∀ t vs, H t = none → RepAll K F vs (y.map E.enc) → Q (.ref t) (upd H t (.lst vs))) → r [v] H Q)
    (hg : Gl X nm := by rfl) (hn : nm ≠ "__name__" := by decide) (hdb : (nm == ("__debug__" : Str)) = false := by decide) (he : starEach (a :: []) X.env = (false, eval a X.env) :: starEach [] X.env := by rfl) (hpl : (backTo pos (starEach [] X.env)).any (·.1) = false := by rfl) :
    LX X env (.Call (.Name nm np) [a] [] pos) (ls (it E)) e' (fun k => f fun x p => (g x).bind fun y => k y p) :=
  fun C F H σs es σ k ω Q hK hl h hk q => tE.of X (pe_callB hcall hg hm hv (pa_cons (peC X) pa_nil he) hn hdb he hpl) (lo_run ha hG hK hl h hk fun x p v F' H' fp hk' h' rr => by
    obtain ⟨y, hy, hk'⟩ := bind_some hk'
    exact hr C.K F' H' fp v x y Q hK h'.sF hy rr fun t vs nt hu => q y p (.ref t) F' _ hk' (h'.newOw nt ⟨t, vs, [], rfl, upd_same, hu.zero, rfl⟩))
theorem lx_y1n {G : Env → Prop} {Ty : String} {r : List V → Hp → VK → Prop} {E : Enc β} {g : τ → List β} {f : (τ → P → Option Ω) → Option Ω} (hcall : CallR X (.type Ty) r) (hm : X.mg nm = none) (hv : bootBuiltins nm = some (.type Ty)) (ha : LO X G env a S e' f) (hG : ∀ p, G (e' p))
    (hr : ∀ K F H fp v x (Q : VK), K = X.K → Same F H → S.rel K F H fp v x → (∀ t vs, H t = none → RepAll K F vs ((g x).map E.enc) → Q (.ref t) (upd H t (.lst vs))) → r [v] H Q)
    (hg : Gl X nm := by rfl) (hn : nm ≠ "__name__" := by decide) (hdb : (nm == ("__debug__" : Str)) = false := by decide) (he : starEach (a :: []) X.env = (false, eval a X.env) :: starEach [] X.env := by rfl) (hpl : (backTo pos (starEach [] X.env)).any (·.1) = false := by rfl) :
    LX X env (.Call (.Name nm np) [a] [] pos) (ls (it E)) e' (fun k => f fun x p => k (g x) p) :=
  fun C F H σs es σ k ω Q hK hl h hk q => tE.of X (pe_callTy hcall hg hm hv (pa_cons (peC X) pa_nil he) hn hdb he hpl) (lo_run ha hG hK hl h hk fun x p v F' H' fp hk' h' rr =>
    hr C.K F' H' fp v x Q hK h'.sF rr fun t vs nt hu => q (g x) p (.ref t) F' _ hk' (h'.newOw nt ⟨t, vs, [], rfl, upd_same, hu.zero, rfl⟩))
/-- f(a, b) of two ints -/
theorem lx_b2I {id : String} {r : List V → Hp → VK → Prop} {g : Int → Int → Int} {e1 : P1 → Env} {e2 : P1 → P2 → Env} {fa : (Int → P1 → Option Ω) → Option Ω} {fb : P1 → (Int → P2 → Option Ω) → Option Ω} (hcall : CallR X (.builtin id) r) (hr : ∀ i j H (Q : VK), Q (.int (g i j)) H → r [.int i, .int j] H Q) (hm : X.mg nm = none) (hv : bootBuiltins nm = some (.builtin id))
    (ha : LX X env a (it eI) e1 fa) (hb : ∀ p1, LX X (e1 p1) b (it eI) (e2 p1) (fb p1)) (hg : Gl X nm := by rfl) (hn : nm ≠ "__name__" := by decide) (hdb : (nm == ("__debug__" : Str)) = false := by decide)
    (he : starEach [a, b] X.env = (false, eval a X.env) :: starEach [b] X.env := by rfl) (he2 : starEach [b] X.env = (false, eval b X.env) :: starEach [] X.env := by rfl) (hpl : (backTo pos (starEach [b] X.env)).any (·.1) = false := by rfl) :
    LX X env (.Call (.Name nm np) [a, b] [] pos) (it eI) (fun p : P1 × P2 => e2 p.1 p.2) (fun k => fa fun x p1 => fb p1 fun y p2 => k (g x y) (p1, p2)) :=
  fun C F H σs es σ k ω Q hK hl h hk q => tE.of X (pe_callB hcall hg hm hv (pa_cons (peC X) (pa_cons (peC X) pa_nil he2) he) hn hdb he hpl) (op2_run (lo_of ha) (fun p1 => lo_of (hb p1)) (fun _ _ => trivial) (fun _ _ => trivial) hK hl h hk
    fun x p1 y p2 v u F' H' fp fq hk' h' r1 r2 => by
      obtain ⟨_, r1⟩ := r1
      obtain ⟨_, r2⟩ := r2
      cases r1; cases r2
      exact hr x y H' Q (q _ (p1, p2) _ F' H' hk' (h'.pushSh (.int _))))
section
variable {G : Env → Prop} {fI : (Int → P → Option Ω) → Option Ω} {f : (τ → P → Option Ω) → Option Ω} {g : τ → List α} {Ea : Enc α}
theorem lx_abs (hm : X.mg "abs" = none) (ha : LX X env a (it eI) e' fI) (hg : Gl X "abs" := by rfl) (he : starEach (a :: []) X.env = (false, eval a X.env) :: starEach [] X.env := by rfl) (hpl : (backTo pos (starEach [] X.env)).any (·.1) = false := by rfl) :
    LX X env (.Call (.Name "abs" np) [a] [] pos) (it eI) e' (fun k => fI fun x p => k (if x < 0 then -x else x) p) :=
  lx_b1t (E := eI) (g := fun x : Int => if x < 0 then -x else x) call_abs hm boot_abs (lo_of ha) (fun _ => trivial) (fun K F H fp v x Q _ _ r q => by obtain ⟨_, r⟩ := r; cases r; exact ⟨x, rfl, q _ (.int _)⟩) hg (by decide) (by decide) he hpl
theorem lx_int1 (hm : X.mg "int" = none) (ha : LX X env a (it eI) e' fI) (hg : Gl X "int" := by rfl) (he : starEach (a :: []) X.env = (false, eval a X.env) :: starEach [] X.env := by rfl) (hpl : (backTo pos (starEach [] X.env)).any (·.1) = false := by rfl) :
    LX X env (.Call (.Name "int" np) [a] [] pos) (it eI) e' (fun k => fI fun x p => k x p) :=
  lx_y1t (E := eI) (g := fun x : Int => x) call_int1 hm PyProof.Rows.boot_int (lo_of ha) (fun _ => trivial) (fun K F H fp v x Q _ _ r q => by obtain ⟨_, r⟩ := r; cases r; exact .inl ⟨x, rfl, q _ (.int _)⟩) hg (by decide) (by decide) he hpl
theorem lx_intB {fB : (Bool → P → Option Ω) → Option Ω} (hm : X.mg "int" = none) (ha : LX X env a (it eB) e' fB) (hg : Gl X "int" := by rfl) (he : starEach (a :: []) X.env = (false, eval a X.env) :: starEach [] X.env := by rfl) (hpl : (backTo pos (starEach [] X.env)).any (·.1) = false := by rfl) :
    LX X env (.Call (.Name "int" np) [a] [] pos) (it eI) e' (fun k => fB fun x p => k (if x = true then 1 else 0) p) :=
  lx_y1t (E := eI) (g := fun x : Bool => if x = true then (1 : Int) else 0) call_int1 hm PyProof.Rows.boot_int (lo_of ha) (fun _ => trivial) (fun K F H fp v x Q _ _ r q => by obtain ⟨_, r⟩ := r; cases r; exact .inr ⟨x, rfl, q _ (.int _)⟩) hg (by decide) (by decide) he hpl
theorem lx_max2 {e1 : P1 → Env} {e2 : P1 → P2 → Env} {fa : (Int → P1 → Option Ω) → Option Ω} {fb : P1 → (Int → P2 → Option Ω) → Option Ω} (hc : X.calm = true) (hm : X.mg "max" = none) (ha : LX X env a (it eI) e1 fa) (hb : ∀ p1, LX X (e1 p1) b (it eI) (e2 p1) (fb p1)) (hg : Gl X "max" := by rfl)
    (he : starEach [a, b] X.env = (false, eval a X.env) :: starEach [b] X.env := by rfl) (he2 : starEach [b] X.env = (false, eval b X.env) :: starEach [] X.env := by rfl) (hpl : (backTo pos (starEach [b] X.env)).any (·.1) = false := by rfl) :
    LX X env (.Call (.Name "max" np) [a, b] [] pos) (it eI) (fun p : P1 × P2 => e2 p.1 p.2) (fun k => fa fun x p1 => fb p1 fun y p2 => k (max x y) (p1, p2)) :=
  lx_b2I (call_max2 hc) (fun i j H Q q => ⟨i, j, rfl, by rw [show (if j > i then j else i) = max i j by omega]; exact q⟩) hm boot_max ha hb hg (by decide) (by decide) he he2 hpl
theorem lx_min2 {e1 : P1 → Env} {e2 : P1 → P2 → Env} {fa : (Int → P1 → Option Ω) → Option Ω} {fb : P1 → (Int → P2 → Option Ω) → Option Ω} (hc : X.calm = true) (hm : X.mg "min" = none) (ha : LX X env a (it eI) e1 fa) (hb : ∀ p1, LX X (e1 p1) b (it eI) (e2 p1) (fb p1)) (hg : Gl X "min" := by rfl)
    (he : starEach [a, b] X.env = (false, eval a X.env) :: starEach [b] X.env := by rfl) (he2 : starEach [b] X.env = (false, eval b X.env) :: starEach [] X.env := by rfl) (hpl : (backTo pos (starEach [b] X.env)).any (·.1) = false := by rfl) :
    LX X env (.Call (.Name "min" np) [a, b] [] pos) (it eI) (fun p : P1 × P2 => e2 p.1 p.2) (fun k => fa fun x p1 => fb p1 fun y p2 => k (min x y) (p1, p2)) :=
  lx_b2I (call_min2 hc) (fun i j H Q q => ⟨i, j, rfl, by rw [show (if j < i then j else i) = min i j by omega]; exact q⟩) hm boot_min ha hb hg (by decide) (by decide) he he2 hpl
theorem lx_len (hv : LVw S (it Ea) g) (hm : X.mg "len" = none) (ha : LO X G env a S e' f) (hG : ∀ p, G (e' p)) (hg : Gl X "len" := by rfl) (he : starEach (a :: []) X.env = (false, eval a X.env) :: starEach [] X.env := by rfl) (hpl : (backTo pos (starEach [] X.env)).any (·.1) = false := by rfl) :
    LX X env (.Call (.Name "len" np) [a] [] pos) (it eI) e' (fun k => f fun x p => k ((g x).length : Int) p) :=
  lx_b1t (E := eI) (g := fun x : τ => ((g x).length : Int)) call_len_seq hm PySem.boot_len ha hG (fun K F H fp v x Q hK s r q => by
    obtain ⟨p, vs, fps, rfl, h1, h2⟩ := hv.view s r
    have := h2.length
    exact ⟨p, vs, rfl, .inl (by rw [← hK]; exact h1), by rw [this]; exact q _ (.int _)⟩) hg (by decide) (by decide) he hpl
theorem lx_lenO {Sx : Stor α} (hv : LVw S Sx g) (hm : X.mg "len" = none) (ha : LO X G env a S e' f) (hG : ∀ p, G (e' p)) (hg : Gl X "len" := by rfl) (he : starEach (a :: []) X.env = (false, eval a X.env) :: starEach [] X.env := by rfl) (hpl : (backTo pos (starEach [] X.env)).any (·.1) = false := by rfl) :
    LX X env (.Call (.Name "len" np) [a] [] pos) (it eI) e' (fun k => f fun x p => k ((g x).length : Int) p) :=
  lx_b1t (E := eI) (g := fun x : τ => ((g x).length : Int)) call_len_seq hm PySem.boot_len ha hG (fun K F H fp v x Q hK s r q => by
    obtain ⟨p, vs, fps, rfl, h1, h2⟩ := hv.view s r
    have := h2.length
    exact ⟨p, vs, rfl, .inl (by rw [← hK]; exact h1), by rw [this]; exact q _ (.int _)⟩) hg (by decide) (by decide) he hpl
theorem lx_lenV (hv : TVw S (it Ea) g) (hm : X.mg "len" = none) (ha : LO X G env a S e' f) (hG : ∀ p, G (e' p)) (hg : Gl X "len" := by rfl) (he : starEach (a :: []) X.env = (false, eval a X.env) :: starEach [] X.env := by rfl) (hpl : (backTo pos (starEach [] X.env)).any (·.1) = false := by rfl) :
    LX X env (.Call (.Name "len" np) [a] [] pos) (it eI) e' (fun k => f fun x p => k ((g x).length : Int) p) :=
  lx_b1t (E := eI) (g := fun x : τ => ((g x).length : Int)) call_len_seq hm PySem.boot_len ha hG (fun K F H fp v x Q hK s r q => by
    obtain ⟨p, vs, fps, rfl, h1, h2⟩ := hv.view s r
    have := h2.length
    exact ⟨p, vs, rfl, .inr (by rw [← hK]; exact h1), by rw [this]; exact q _ (.int _)⟩) hg (by decide) (by decide) he hpl
theorem RepAll.ints {K : Fg} {F : Hp} : ∀ {vs : List V} {ns : List Int}, RepAll K F vs (ns.map eI.enc) → vs = ns.map V.int
  | [], [], _ => rfl
  | [], _ :: _, h => by cases h
  | _ :: _, [], h => by cases h
  | v :: vs, n :: ns, h => by
    cases h with
    | cons h1 h2 =>
      have h1' : Rep K F v (.int n) := h1
      cases h1'
      rw [RepAll.ints h2]; rfl
theorem RepAll.ofInts {K : Fg} {F : Hp} : ∀ (ns : List Int), RepAll K F (ns.map V.int) (ns.map eI.enc)
  | [] => .nil
  | n :: ns => .cons (.int n) (RepAll.ofInts ns)
theorem lx_sum {g : τ → List Int} (hc : X.calm = true) (hv : LVw S (it eI) g) (hm : X.mg "sum" = none) (ha : LO X G env a S e' f) (hG : ∀ p, G (e' p)) (hg : Gl X "sum" := by rfl) (he : starEach (a :: []) X.env = (false, eval a X.env) :: starEach [] X.env := by rfl) (hpl : (backTo pos (starEach [] X.env)).any (·.1) = false := by rfl) :
    LX X env (.Call (.Name "sum" np) [a] [] pos) (it eI) e' (fun k => f fun x p => k (g x).sum p) :=
  lx_b1t (E := eI) (g := fun x : τ => (g x).sum) (cr_sum hc) hm boot_sum ha hG (fun K F H fp v x Q hK s r q => by
    obtain ⟨p, vs, fps, rfl, h1, h2⟩ := hv.view s r
    have := h2.zero.2.ints
    subst this
    exact ⟨p, g x, rfl, by rw [← hK]; exact h1, q _ (.int _)⟩) hg (by decide) (by decide) he hpl
/-- the least, the greatest of a list of ints -/
def minI : List Int → Option Int
  | [] => none
  | x :: xs => some (xs.foldl min x)
def maxI : List Int → Option Int
  | [] => none
  | x :: xs => some (xs.foldl max x)
theorem foldl_min_le : ∀ (xs : List Int) (x : Int), xs.foldl min x ≤ x ∧ ∀ y ∈ xs, xs.foldl min x ≤ y
  | [], x => ⟨Int.le_refl x, fun _ m => nomatch m⟩
  | z :: xs, x => by
    obtain ⟨h1, h2⟩ := foldl_min_le xs (min x z)
    rw [List.foldl_cons]
    refine ⟨by omega, fun y m => ?_⟩
    rcases List.mem_cons.mp m with rfl | m
    · omega
    · exact h2 y m
theorem foldl_min_mem : ∀ (xs : List Int) (x : Int), xs.foldl min x = x ∨ xs.foldl min x ∈ xs
  | [], x => .inl rfl
  | z :: xs, x => by
    rw [List.foldl_cons]
    rcases foldl_min_mem xs (min x z) with h | h
    · by_cases c : x ≤ z
      · left; rw [h]; omega
      · right; rw [h, show min x z = z by omega]; exact List.mem_cons_self
    · exact .inr (List.mem_cons_of_mem _ h)
theorem foldl_max_le : ∀ (xs : List Int) (x : Int), x ≤ xs.foldl max x ∧ ∀ y ∈ xs, y ≤ xs.foldl max x
  | [], x => ⟨Int.le_refl x, fun _ m => nomatch m⟩
  | z :: xs, x => by
    obtain ⟨h1, h2⟩ := foldl_max_le xs (max x z)
    rw [List.foldl_cons]
    refine ⟨by omega, fun y m => ?_⟩
    rcases List.mem_cons.mp m with rfl | m
    · omega
    · exact h2 y m
theorem foldl_max_mem : ∀ (xs : List Int) (x : Int), xs.foldl max x = x ∨ xs.foldl max x ∈ xs
  | [], x => .inl rfl
  | z :: xs, x => by
    rw [List.foldl_cons]
    rcases foldl_max_mem xs (max x z) with h | h
    · by_cases c : z ≤ x
      · left; rw [h]; omega
      · right; rw [h, show max x z = z by omega]; exact List.mem_cons_self
    · exact .inr (List.mem_cons_of_mem _ h)
theorem minI_is {ns : List Int} {y m : Int} (h : minI ns = some y) (hm : m ∈ ns) (hle : ∀ z ∈ ns, m ≤ z) : m = y := by
  cases ns with
  | nil => cases h
  | cons x xs =>
    cases h
    obtain ⟨h1, h2⟩ := foldl_min_le xs x
    have a1 : xs.foldl min x ≤ m := by
      rcases List.mem_cons.mp hm with rfl | q
      · exact h1
      · exact h2 m q
    have a2 : m ≤ xs.foldl min x := by
      rcases foldl_min_mem xs x with q | q
      · rw [q]; exact hle x List.mem_cons_self
      · exact hle _ (List.mem_cons_of_mem _ q)
    omega
theorem maxI_is {ns : List Int} {y m : Int} (h : maxI ns = some y) (hm : m ∈ ns) (hle : ∀ z ∈ ns, z ≤ m) : m = y := by
  cases ns with
  | nil => cases h
  | cons x xs =>
    cases h
    obtain ⟨h1, h2⟩ := foldl_max_le xs x
    have a1 : m ≤ xs.foldl max x := by
      rcases List.mem_cons.mp hm with rfl | q
      · exact h1
      · exact h2 m q
    have a2 : xs.foldl max x ≤ m := by
      rcases foldl_max_mem xs x with q | q
      · rw [q]; exact hle x List.mem_cons_self
      · exact hle _ (List.mem_cons_of_mem _ q)
    omega
theorem lx_minI {g : τ → List Int} (hc : X.calm = true) (hv : LVw S (it eI) g) (hm : X.mg "min" = none) (ha : LO X G env a S e' f) (hG : ∀ p, G (e' p)) (hg : Gl X "min" := by rfl) (he : starEach (a :: []) X.env = (false, eval a X.env) :: starEach [] X.env := by rfl) (hpl : (backTo pos (starEach [] X.env)).any (·.1) = false := by rfl) :
    LX X env (.Call (.Name "min" np) [a] [] pos) (it eI) e' (fun k => f fun x p => (minI (g x)).bind fun y => k y p) :=
  lx_b1 (E := eI) (g := fun x : τ => minI (g x)) (cr_min hc) hm boot_min ha hG (fun K F H fp v x y Q hK s hy r q => by
    obtain ⟨p, vs, fps, rfl, h1, h2⟩ := hv.view s r
    have := h2.zero.2.ints
    subst this
    refine ⟨p, g x, rfl, by rw [← hK]; exact h1, ?_, fun m hmm hle => ?_⟩
    · cases hgx : g x with
      | nil => rw [hgx] at hy; cases hy
      | cons z zs => simp
    · rw [minI_is hy hmm hle]; exact q _ (.int _)) hg (by decide) (by decide) he hpl
theorem lx_maxI {g : τ → List Int} (hc : X.calm = true) (hv : LVw S (it eI) g) (hm : X.mg "max" = none) (ha : LO X G env a S e' f) (hG : ∀ p, G (e' p)) (hg : Gl X "max" := by rfl) (he : starEach (a :: []) X.env = (false, eval a X.env) :: starEach [] X.env := by rfl) (hpl : (backTo pos (starEach [] X.env)).any (·.1) = false := by rfl) :
    LX X env (.Call (.Name "max" np) [a] [] pos) (it eI) e' (fun k => f fun x p => (maxI (g x)).bind fun y => k y p) :=
  lx_b1 (E := eI) (g := fun x : τ => maxI (g x)) (cr_max hc) hm boot_max ha hG (fun K F H fp v x y Q hK s hy r q => by
    obtain ⟨p, vs, fps, rfl, h1, h2⟩ := hv.view s r
    have := h2.zero.2.ints
    subst this
    refine ⟨p, g x, rfl, by rw [← hK]; exact h1, ?_, fun m hmm hle => ?_⟩
    · cases hgx : g x with
      | nil => rw [hgx] at hy; cases hy
      | cons z zs => simp
    · rw [maxI_is hy hmm hle]; exact q _ (.int _)) hg (by decide) (by decide) he hpl
/-- list(xs) -/
theorem lx_listof (hv : LVw S (it Ea) g) (hm : X.mg "list" = none) (ha : LO X G env a S e' f) (hG : ∀ p, G (e' p)) (hg : Gl X "list" := by rfl) (he : starEach (a :: []) X.env = (false, eval a X.env) :: starEach [] X.env := by rfl) (hpl : (backTo pos (starEach [] X.env)).any (·.1) = false := by rfl) :
    LX X env (.Call (.Name "list" np) [a] [] pos) (ls (it Ea)) e' (fun k => f fun x p => k (g x) p) :=
  lx_y1n (E := Ea) (g := g) call_list_of hm PyProof.Rows.boot_list ha hG (fun K F H fp v x Q hK s r q => by
    obtain ⟨p, vs, fps, rfl, h1, h2⟩ := hv.view s r
    exact ⟨p, vs, rfl, .inl (by rw [← hK]; exact h1), fun l hl => q l vs hl h2.zero.2⟩) hg (by decide) (by decide) he hpl
end
end
end Z

set_option Elab.async false
set_option linter.all false
set_option maxRecDepth 100000
namespace Z
open PySem PySem.Spec PyProof.Rows L2

/-! ### kinds of data: depth, equality, order -/
structure Dt {τ : Type} (E : Enc τ) (n : Nat) : Prop where
  lay : ∀ x, (E.enc x).canLay0 = true
  dep : ∀ x, (E.enc x).depth ≤ n
theorem Dt.mono {τ : Type} {E : Enc τ} {n m : Nat} (h : Dt E n) (l : n ≤ m) : Dt E m := ⟨h.lay, fun x => Nat.le_trans (h.dep x) l⟩
theorem canLayAll_of : ∀ {ds : List PyData}, (∀ d ∈ ds, d.canLay0 = true) → PyData.canLayAll0 ds = true
  | [], _ => rfl
  | d :: ds, h => by
    unfold PyData.canLayAll0
    rw [h d List.mem_cons_self, canLayAll_of fun e m => h e (List.mem_cons_of_mem _ m)]; rfl
theorem depthAll_of : ∀ {ds : List PyData} {n : Nat}, (∀ d ∈ ds, d.depth ≤ n) → PyData.depthAll ds ≤ n
  | [], n, _ => by simp [PyData.depthAll]
  | d :: ds, n, h => by
    unfold PyData.depthAll
    have h1 := h d List.mem_cons_self
    have h2 := depthAll_of (ds := ds) (n := n) fun e m => h e (List.mem_cons_of_mem _ m)
    omega
theorem dtI : Dt eI 0 := ⟨fun _ => rfl, fun _ => by simp [eI, PyData.depth]⟩
theorem dtB : Dt eB 0 := ⟨fun _ => rfl, fun _ => by simp [eB, PyData.depth]⟩
theorem dtN : Dt eN 0 := ⟨fun _ => rfl, fun _ => by simp [eN, PyData.depth]⟩
theorem dtL {τ : Type} {E : Enc τ} {n : Nat} (h : Dt E n) : Dt (eL E) (n + 1) := ⟨fun x => by
  show PyData.canLay0 (.list _) = true
  rw [PyData.canLay0]
  exact canLayAll_of fun d m => by obtain ⟨y, _, rfl⟩ := List.mem_map.mp m; exact h.lay y, fun x => by
  show PyData.depth (.list _) ≤ n + 1
  rw [PyData.depth]
  have := depthAll_of (ds := x.map E.enc) (n := n) fun d m => by obtain ⟨y, _, rfl⟩ := List.mem_map.mp m; exact h.dep y
  omega⟩
theorem dtV {τ : Type} {E : Enc τ} {n : Nat} (h : Dt E n) : Dt (eV E) (n + 1) := ⟨fun x => by
  show PyData.canLay0 (.tuple _) = true
  rw [PyData.canLay0]
  exact canLayAll_of fun d m => by obtain ⟨y, _, rfl⟩ := List.mem_map.mp m; exact h.lay y, fun x => by
  show PyData.depth (.tuple _) ≤ n + 1
  rw [PyData.depth]
  have := depthAll_of (ds := x.map E.enc) (n := n) fun d m => by obtain ⟨y, _, rfl⟩ := List.mem_map.mp m; exact h.dep y
  omega⟩
theorem dt_tup {τ : Type} {E : Enc τ} {n : Nat} {ds : τ → List PyData} (he : ∀ x, E.enc x = .tuple (ds x)) (h1 : ∀ x, ∀ d ∈ ds x, d.canLay0 = true) (h2 : ∀ x, ∀ d ∈ ds x, d.depth ≤ n) : Dt E (n + 1) := ⟨fun x => by
  rw [he, PyData.canLay0]; exact canLayAll_of (h1 x), fun x => by
  rw [he, PyData.depth]
  have := depthAll_of (h2 x)
  omega⟩
section
variable {α β γ δ : Type} {A : Enc α} {B : Enc β} {G : Enc γ} {D : Enc δ} {n : Nat}
theorem dtT2 (a : Dt A n) (b : Dt B n) : Dt (eT2 A B) (n + 1) := dt_tup (ds := fun p => [A.enc p.1, B.enc p.2]) (fun _ => rfl) (fun x d m => by simp at m; rcases m with rfl | rfl; exact a.lay _; exact b.lay _) (fun x d m => by simp at m; rcases m with rfl | rfl; exact a.dep _; exact b.dep _)
theorem dtT3 (a : Dt A n) (b : Dt B n) (g : Dt G n) : Dt (eT3 A B G) (n + 1) := dt_tup (ds := fun p => [A.enc p.1, B.enc p.2.1, G.enc p.2.2]) (fun _ => rfl) (fun x d m => by simp at m; rcases m with rfl | rfl | rfl; exact a.lay _; exact b.lay _; exact g.lay _) (fun x d m => by simp at m; rcases m with rfl | rfl | rfl; exact a.dep _; exact b.dep _; exact g.dep _)
theorem dtT4 (a : Dt A n) (b : Dt B n) (g : Dt G n) (d4 : Dt D n) : Dt (eT4 A B G D) (n + 1) := dt_tup (ds := fun p => [A.enc p.1, B.enc p.2.1, G.enc p.2.2.1, D.enc p.2.2.2]) (fun _ => rfl) (fun x d m => by simp at m; rcases m with rfl | rfl | rfl | rfl; exact a.lay _; exact b.lay _; exact g.lay _; exact d4.lay _) (fun x d m => by simp at m; rcases m with rfl | rfl | rfl | rfl; exact a.dep _; exact b.dep _; exact g.dep _; exact d4.dep _)
end
/-- == of this kind is equality -/
structure Ev {τ : Type} [DecidableEq τ] (E : Enc τ) : Prop where
  eq : ∀ x y, PyData.eqv (E.enc x) (E.enc y) = decide (x = y)
theorem evI : Ev eI := ⟨fun x y => by simp [eI, PyData.eqv, Bool.beq_eq_decide_eq]⟩
theorem evB : Ev eB := ⟨fun x y => by simp [eB, PyData.eqv, Bool.beq_eq_decide_eq]⟩
theorem evN : Ev eN := ⟨fun x y => by simp [eN, PyData.eqv]⟩
theorem evS : Ev eS := ⟨fun x y => by simp only [eS, PyData.eqv]; exact Bool.beq_eq_decide_eq x y⟩
theorem eqvAll_map {τ : Type} [DecidableEq τ] {E : Enc τ} (h : Ev E) : ∀ (xs ys : List τ), PyData.eqvAll (xs.map E.enc) (ys.map E.enc) = decide (xs = ys)
  | [], [] => by simp [PyData.eqvAll]
  | [], _ :: _ => by simp [PyData.eqvAll]
  | _ :: _, [] => by simp [PyData.eqvAll]
  | x :: xs, y :: ys => by
    simp only [List.map_cons, PyData.eqvAll, h.eq, eqvAll_map h xs ys, List.cons.injEq, Bool.decide_and]
theorem evL {τ : Type} [DecidableEq τ] {E : Enc τ} (h : Ev E) : Ev (eL E) := ⟨fun x y => by simp only [eL, PyData.eqv]; exact eqvAll_map h x y⟩
theorem evV {τ : Type} [DecidableEq τ] {E : Enc τ} (h : Ev E) : Ev (eV E) := ⟨fun x y => by simp only [eV, PyData.eqv]; exact eqvAll_map h x y⟩
section
variable {α β γ δ : Type} [DecidableEq α] [DecidableEq β] [DecidableEq γ] [DecidableEq δ] {A : Enc α} {B : Enc β} {G : Enc γ} {D : Enc δ}
theorem evT2 (a : Ev A) (b : Ev B) : Ev (eT2 A B) := ⟨fun x y => by
  obtain ⟨x1, x2⟩ := x
  obtain ⟨y1, y2⟩ := y
  simp only [eT2, PyData.eqv, PyData.eqvAll, a.eq, b.eq, Bool.and_true, Prod.mk.injEq, Bool.decide_and]⟩
theorem evT3 (a : Ev A) (b : Ev B) (g : Ev G) : Ev (eT3 A B G) := ⟨fun x y => by
  obtain ⟨x1, x2, x3⟩ := x
  obtain ⟨y1, y2, y3⟩ := y
  simp only [eT3, PyData.eqv, PyData.eqvAll, a.eq, b.eq, g.eq, Bool.and_true, Prod.mk.injEq, Bool.decide_and]⟩
theorem evT4 (a : Ev A) (b : Ev B) (g : Ev G) (d : Ev D) : Ev (eT4 A B G D) := ⟨fun x y => by
  obtain ⟨x1, x2, x3, x4⟩ := x
  obtain ⟨y1, y2, y3, y4⟩ := y
  simp only [eT4, PyData.eqv, PyData.eqvAll, a.eq, b.eq, g.eq, d.eq, Bool.and_true, Prod.mk.injEq, Bool.decide_and]⟩
end
/-- an order: < of this kind -/
structure Od {τ : Type} (E : Enc τ) (lt : τ → τ → Bool) : Prop where
  lt : ∀ x y, PySem.W.dataLt (E.enc x) (E.enc y) = lt x y
  al : ∀ x y, PySem.W.alike (E.enc x) (E.enc y) = true
  nn : ∀ x, E.enc x ≠ .none
def ltI (x y : Int) : Bool := decide (x < y)
theorem odI : Od eI ltI := ⟨fun x y => by
  have h := PySem.W.minD_ints x [y]
  simp only [PySem.W.minD, List.map_cons, List.map_nil, List.foldl_cons, List.foldl_nil] at h
  have h2 := PySem.W.minD_ints y [x]
  simp only [PySem.W.minD, List.map_cons, List.map_nil, List.foldl_cons, List.foldl_nil] at h2
  show PySem.W.dataLt (.int x) (.int y) = _
  unfold ltI
  by_cases c : x < y
  · rw [decide_eq_true c]
    cases e : PySem.W.dataLt (.int x) (.int y) with
    | true => rfl
    | false =>
      rw [e] at h2
      simp at h2; omega
  · rw [decide_eq_false c]
    cases e : PySem.W.dataLt (.int x) (.int y) with
    | false => rfl
    | true =>
      rw [e] at h2
      simp at h2
      by_cases c2 : x = y
      · subst c2
        unfold PySem.W.dataLt at e
        rw [PyProof.Rows.lex_irrefl] at e
        cases e
      · omega, fun _ _ => rfl, fun _ h => by cases h⟩
section
variable {α β γ δ : Type} [DecidableEq α] [DecidableEq β] [DecidableEq γ] {A : Enc α} {B : Enc β} {G : Enc γ} {la : α → α → Bool} {lb : β → β → Bool} {lg : γ → γ → Bool}
theorem lt_cons {x y : PyData} {xs ys : List PyData} (h : PySem.W.alike x y = true) : PySem.W.dataLt (.tuple (x :: xs)) (.tuple (y :: ys)) = if PyData.eqv x y = true then PySem.W.dataLt (.tuple xs) (.tuple ys) else PySem.W.dataLt x y := by
  rw [PySem.W.dataLt_tuple, PySem.W.dataLt_tuple]
  cases e : PyData.eqv x y with
  | true => rw [if_pos rfl]; exact PySem.W.dataLt_all_yes h e
  | false => rw [if_neg Bool.false_ne_true]; exact PySem.W.dataLt_all_no h e
def lt2 (la : α → α → Bool) (lb : β → β → Bool) (x y : α × β) : Bool := if x.1 = y.1 then lb x.2 y.2 else la x.1 y.1
def lt3 (la : α → α → Bool) (lb : β → β → Bool) (lg : γ → γ → Bool) (x y : α × β × γ) : Bool := if x.1 = y.1 then (if x.2.1 = y.2.1 then lg x.2.2 y.2.2 else lb x.2.1 y.2.1) else la x.1 y.1
theorem lt_one {x y : PyData} (h : PySem.W.alike x y = true) : PySem.W.dataLt (.tuple [x]) (.tuple [y]) = PySem.W.dataLt x y := by
  rw [lt_cons h]
  cases e : PyData.eqv x y with
  | false => rw [if_neg Bool.false_ne_true]
  | true =>
    rw [if_pos rfl]
    have := (PySem.W.toks_eqv x y h).1 e
    unfold PySem.W.dataLt
    rw [this, PyProof.Rows.lex_irrefl, PyProof.Rows.lex_irrefl]
theorem odT2 (ea : Ev A) (a : Od A la) (b : Od B lb) : Od (eT2 A B) (lt2 la lb) := ⟨fun x y => by
  obtain ⟨x1, x2⟩ := x
  obtain ⟨y1, y2⟩ := y
  show PySem.W.dataLt (.tuple [A.enc x1, B.enc x2]) (.tuple [A.enc y1, B.enc y2]) = _
  rw [lt_cons (a.al _ _), lt_one (b.al _ _), ea.eq, a.lt, b.lt]
  unfold lt2
  simp only [decide_eq_true_eq], fun x y => by
  obtain ⟨x1, x2⟩ := x
  obtain ⟨y1, y2⟩ := y
  show PySem.W.alike (.tuple [A.enc x1, B.enc x2]) (.tuple [A.enc y1, B.enc y2]) = true
  simp only [PySem.W.alike, PySem.W.alikeAll, a.al, b.al, Bool.and_self], fun _ h => by cases h⟩
theorem odT3 (ea : Ev A) (eb : Ev B) (a : Od A la) (b : Od B lb) (g : Od G lg) : Od (eT3 A B G) (lt3 la lb lg) := ⟨fun x y => by
  obtain ⟨x1, x2, x3⟩ := x
  obtain ⟨y1, y2, y3⟩ := y
  show PySem.W.dataLt (.tuple [A.enc x1, B.enc x2, G.enc x3]) (.tuple [A.enc y1, B.enc y2, G.enc y3]) = _
  rw [lt_cons (a.al _ _), lt_cons (b.al _ _), lt_one (g.al _ _), ea.eq, eb.eq, a.lt, b.lt, g.lt]
  unfold lt3
  simp only [decide_eq_true_eq], fun x y => by
  obtain ⟨x1, x2, x3⟩ := x
  obtain ⟨y1, y2, y3⟩ := y
  show PySem.W.alike (.tuple [A.enc x1, B.enc x2, G.enc x3]) (.tuple [A.enc y1, B.enc y2, G.enc y3]) = true
  simp only [PySem.W.alike, PySem.W.alikeAll, a.al, b.al, g.al, Bool.and_self], fun _ h => by cases h⟩
end

/-! ### data as the layer's rules read them -/
mutual
theorem Rep.dp {K : Fg} {F H : Hp} (s : Same F H) : ∀ {v : V} {d : PyData}, Rep K F v d → d.canLay0 = true → Dp K H v d
  | _, _, .non, _ => .non
  | _, _, .bl b, _ => .bl b
  | _, _, .int i, _ => .int i
  | _, _, .str x, _ => .str x
  | _, _, .lst h r, c => .lst (SqL.of (s _ _ h)) (RepAll.dp s r (by rwa [PyData.canLay0] at c))
  | _, _, .tup h r, c => .tup (same_sqT s h) (RepAll.dp s r (by rwa [PyData.canLay0] at c))
  | _, _, .dK h r, c => by rw [PyData.canLay0] at c; cases c
  | _, _, .dT h r, c => by rw [PyData.canLay0] at c; cases c
theorem RepAll.dp {K : Fg} {F H : Hp} (s : Same F H) : ∀ {vs : List V} {ds : List PyData}, RepAll K F vs ds → PyData.canLayAll0 ds = true → DpAll K H vs ds
  | _, _, .nil, _ => .nil
  | _, _, .cons h r, c => by
    rw [PyData.canLayAll0] at c
    have c' := Bool.and_eq_true_iff.mp c
    exact .cons (Rep.dp s h c'.1) (RepAll.dp s r c'.2)
end
structure Dv {τ : Type} (S : Stor τ) (E : Enc τ) : Prop where
  dp : ∀ {K : Fg} {F H : Hp} {fp : List Addr} {v : V} {x : τ}, Same F H → (E.enc x).canLay0 = true → S.rel K F H fp v x → Dp K H v (E.enc x)
section
variable {τ τ1 τ2 α β : Type} {S : Stor τ} {S1 : Stor τ1} {S2 : Stor τ2} {E : Enc τ} {E1 : Enc τ1} {E2 : Enc τ2}
theorem dv_it : Dv (it E) E := ⟨fun s c r => r.2.dp s c⟩
theorem RelAll.dps {K : Fg} {H : Hp} {R : List Addr → V → τ → Prop} : ∀ {fp : List Addr} {vs : List V} {xs : List τ}, (∀ fq v x, R fq v x → (E.enc x).canLay0 = true → Dp K H v (E.enc x)) → PyData.canLayAll0 (xs.map E.enc) = true → RelAll R fp vs xs → DpAll K H vs (xs.map E.enc)
  | _, _, _, _, _, .nil => .nil
  | _, _, _, f, c, .cons h r => by
    rw [List.map_cons, PyData.canLayAll0] at c
    have c' := Bool.and_eq_true_iff.mp c
    exact .cons (f _ _ _ h c'.1) (RelAll.dps f c'.2 r)
theorem dv_ls (d : Dv S E) : Dv (ls S) (eL E) := ⟨fun {K F H fp v x} s c r => by
  obtain ⟨p, vs, fps, rfl, h, ra, rfl⟩ := r
  have c' : PyData.canLayAll0 (x.map E.enc) = true := by
    have : PyData.canLay0 (.list (x.map E.enc)) = true := c
    rwa [PyData.canLay0] at this
  exact .lst (SqL.of h) (ra.dps (fun _ _ _ q c => d.dp s c q) c')⟩
theorem shaped_of {d : PyData} (h1 : d.canLay0 = true) (h2 : d.depth ≤ 64) : SeqAt.shaped d = true := by
  unfold SeqAt.shaped
  rw [h1, decide_eq_true h2]; rfl
variable {X : Cx} {Ω : Type} {env : Env} {nm : Str} {pos np : Pos} {a b : Expr} {P P1 P2 : Type} {G : Env → Prop} {G1 : Env → Prop} {G2 : P1 → Env → Prop} {e' : P → Env} {e1 : P1 → Env} {e2 : P1 → P2 → Env} {fa : (τ1 → P1 → Option Ω) → Option Ω} {fb : P1 → (τ2 → P2 → Option Ω) → Option Ω}
/-- == of data of two kinds -/
theorem lc_eqD {n m : Nat} (hu : X.A.units + 64 < cLine) (d1 : Dv S1 E1) (d2 : Dv S2 E2) (t1 : Dt E1 n) (t2 : Dt E2 m) (ha : LO X G1 env a S1 e1 fa) (hb : ∀ p1, LO X (G2 p1) (e1 p1) b S2 (e2 p1) (fb p1)) (g1 : ∀ p1 p2, G1 (e2 p1 p2)) (g2 : ∀ p1 p2, G2 p1 (e2 p1 p2)) (hn : n ≤ 64 := by decide) (hm : m ≤ 64 := by decide) :
    LC X env .Eq a b (fun p : P1 × P2 => e2 p.1 p.2) (fun k => fa fun x p1 => fb p1 fun y p2 => k (PyData.eqv (E1.enc x) (E2.enc y)) (p1, p2)) :=
  lc_cmp (op_eqD hu) ha hb g1 g2 fun K F H fp fq v u x y Q hK s r1 r2 q => by
    subst hK
    exact ⟨_, _, d1.dp s (t1.lay x) r1, d2.dp s (t2.lay y) r2, shaped_of (t1.lay x) (Nat.le_trans (t1.dep x) hn), shaped_of (t2.lay y) (Nat.le_trans (t2.dep y) hm), q⟩
theorem lc_neD {n m : Nat} (hu : X.A.units + 64 < cLine) (d1 : Dv S1 E1) (d2 : Dv S2 E2) (t1 : Dt E1 n) (t2 : Dt E2 m) (ha : LO X G1 env a S1 e1 fa) (hb : ∀ p1, LO X (G2 p1) (e1 p1) b S2 (e2 p1) (fb p1)) (g1 : ∀ p1 p2, G1 (e2 p1 p2)) (g2 : ∀ p1 p2, G2 p1 (e2 p1 p2)) (hn : n ≤ 64 := by decide) (hm : m ≤ 64 := by decide) :
    LC X env .NotEq a b (fun p : P1 × P2 => e2 p.1 p.2) (fun k => fa fun x p1 => fb p1 fun y p2 => k (!PyData.eqv (E1.enc x) (E2.enc y)) (p1, p2)) :=
  lc_cmp (op_neD hu) ha hb g1 g2 fun K F H fp fq v u x y Q hK s r1 r2 q => by
    subst hK
    exact ⟨_, _, d1.dp s (t1.lay x) r1, d2.dp s (t2.lay y) r2, shaped_of (t1.lay x) (Nat.le_trans (t1.dep x) hn), shaped_of (t2.lay y) (Nat.le_trans (t2.dep y) hm), q⟩
/-- .. of any data, with a check -/
theorem lc_eqC (hu : X.A.units + 64 < cLine) (d1 : Dv S1 E1) (d2 : Dv S2 E2) (ha : LO X G1 env a S1 e1 fa) (hb : ∀ p1, LO X (G2 p1) (e1 p1) b S2 (e2 p1) (fb p1)) (g1 : ∀ p1 p2, G1 (e2 p1 p2)) (g2 : ∀ p1 p2, G2 p1 (e2 p1 p2)) :
    LC X env .Eq a b (fun p : P1 × P2 => e2 p.1 p.2) (fun k => fa fun x p1 => fb p1 fun y p2 => ck (SeqAt.shaped (E1.enc x) && SeqAt.shaped (E2.enc y)) (k (PyData.eqv (E1.enc x) (E2.enc y)) (p1, p2))) :=
  lc_cmpC (c := fun x y => SeqAt.shaped (E1.enc x) && SeqAt.shaped (E2.enc y)) (op_eqD hu) ha hb g1 g2 fun K F H fp fq v u x y Q hK s hc r1 r2 q => by
    subst hK
    obtain ⟨c1, c2⟩ := Bool.and_eq_true_iff.mp hc
    exact ⟨_, _, d1.dp s (SeqAt.canLay_of_shaped c1) r1, d2.dp s (SeqAt.canLay_of_shaped c2) r2, c1, c2, q⟩
theorem lc_neC (hu : X.A.units + 64 < cLine) (d1 : Dv S1 E1) (d2 : Dv S2 E2) (ha : LO X G1 env a S1 e1 fa) (hb : ∀ p1, LO X (G2 p1) (e1 p1) b S2 (e2 p1) (fb p1)) (g1 : ∀ p1 p2, G1 (e2 p1 p2)) (g2 : ∀ p1 p2, G2 p1 (e2 p1 p2)) :
    LC X env .NotEq a b (fun p : P1 × P2 => e2 p.1 p.2) (fun k => fa fun x p1 => fb p1 fun y p2 => ck (SeqAt.shaped (E1.enc x) && SeqAt.shaped (E2.enc y)) (k (!PyData.eqv (E1.enc x) (E2.enc y)) (p1, p2))) :=
  lc_cmpC (c := fun x y => SeqAt.shaped (E1.enc x) && SeqAt.shaped (E2.enc y)) (op_neD hu) ha hb g1 g2 fun K F H fp fq v u x y Q hK s hc r1 r2 q => by
    subst hK
    obtain ⟨c1, c2⟩ := Bool.and_eq_true_iff.mp hc
    exact ⟨_, _, d1.dp s (SeqAt.canLay_of_shaped c1) r1, d2.dp s (SeqAt.canLay_of_shaped c2) r2, c1, c2, q⟩
theorem lc_eqT [DecidableEq τ1] {S2 : Stor τ1} {fb : P1 → (τ1 → P2 → Option Ω) → Option Ω} {n : Nat} (hu : X.A.units + 64 < cLine) (d1 : Dv S1 E1) (d2 : Dv S2 E1) (t : Dt E1 n) (ev : Ev E1) (ha : LO X G1 env a S1 e1 fa) (hb : ∀ p1, LO X (G2 p1) (e1 p1) b S2 (e2 p1) (fb p1)) (g1 : ∀ p1 p2, G1 (e2 p1 p2)) (g2 : ∀ p1 p2, G2 p1 (e2 p1 p2)) (hn : n ≤ 64 := by decide) :
    LC X env .Eq a b (fun p : P1 × P2 => e2 p.1 p.2) (fun k => fa fun x p1 => fb p1 fun y p2 => k (decide (x = y)) (p1, p2)) :=
  lc_cmp (op_eqD hu) ha hb g1 g2 fun K F H fp fq v u x y Q hK s r1 r2 q => by
    subst hK
    exact ⟨_, _, d1.dp s (t.lay x) r1, d2.dp s (t.lay y) r2, shaped_of (t.lay x) (Nat.le_trans (t.dep x) hn), shaped_of (t.lay y) (Nat.le_trans (t.dep y) hn), by rw [ev.eq]; exact q⟩
theorem lc_neT [DecidableEq τ1] {S2 : Stor τ1} {fb : P1 → (τ1 → P2 → Option Ω) → Option Ω} {n : Nat} (hu : X.A.units + 64 < cLine) (d1 : Dv S1 E1) (d2 : Dv S2 E1) (t : Dt E1 n) (ev : Ev E1) (ha : LO X G1 env a S1 e1 fa) (hb : ∀ p1, LO X (G2 p1) (e1 p1) b S2 (e2 p1) (fb p1)) (g1 : ∀ p1 p2, G1 (e2 p1 p2)) (g2 : ∀ p1 p2, G2 p1 (e2 p1 p2)) (hn : n ≤ 64 := by decide) :
    LC X env .NotEq a b (fun p : P1 × P2 => e2 p.1 p.2) (fun k => fa fun x p1 => fb p1 fun y p2 => k (!decide (x = y)) (p1, p2)) :=
  lc_cmp (op_neD hu) ha hb g1 g2 fun K F H fp fq v u x y Q hK s r1 r2 q => by
    subst hK
    exact ⟨_, _, d1.dp s (t.lay x) r1, d2.dp s (t.lay y) r2, shaped_of (t.lay x) (Nat.le_trans (t.dep x) hn), shaped_of (t.lay y) (Nat.le_trans (t.dep y) hn), by rw [ev.eq]; exact q⟩
/-- is None, is not None -/
def isNone (d : PyData) : Bool := match d with
  | .none => true
  | _ => false
theorem enc_none {v : V} {K : Fg} {F : Hp} {d : PyData} (h : Rep K F v d) : decide (v = .non) = isNone d := by
  cases h <;> simp [isNone]
theorem lc_isN {fp1 : (τ1 → P1 → Option Ω) → Option Ω} {j : Nat} {cp : Pos} (ha : LX X env a (it E1) e1 fp1) : LC X env .Is a (.Constant .none j cp) (fun p : P1 × Unit => e1 p.1) (fun k => fp1 fun x p1 => k (isNone (E1.enc x)) (p1, ())) :=
  lc_cmp (g := fun x _ => isNone (E1.enc x)) op_isN (lo_of ha) (fun p1 => lo_of (lx_non (env := e1 p1))) (fun _ _ => trivial) (fun _ _ => trivial) fun K F H fp fq v u x y Q hK s r1 r2 q => by
    obtain ⟨_, r1⟩ := r1
    obtain ⟨_, r2⟩ := r2
    have r2' : Rep K F u .none := r2
    cases r2'
    exact ⟨rfl, by rw [enc_none r1]; exact q⟩
theorem lc_notN {fp1 : (τ1 → P1 → Option Ω) → Option Ω} {j : Nat} {cp : Pos} (ha : LX X env a (it E1) e1 fp1) : LC X env .IsNot a (.Constant .none j cp) (fun p : P1 × Unit => e1 p.1) (fun k => fp1 fun x p1 => k (!isNone (E1.enc x)) (p1, ())) :=
  lc_cmp (g := fun x _ => !isNone (E1.enc x)) op_notN (lo_of ha) (fun p1 => lo_of (lx_non (env := e1 p1))) (fun _ _ => trivial) (fun _ _ => trivial) fun K F H fp fq v u x y Q hK s r1 r2 q => by
    obtain ⟨_, r1⟩ := r1
    obtain ⟨_, r2⟩ := r2
    have r2' : Rep K F u .none := r2
    cases r2'
    exact ⟨rfl, by rw [enc_none r1]; exact q⟩

/-! ### min, max, sorted of lists of data -/
def rMinD (K : Fg) : List V → Hp → VK → Prop := fun vs H Q => ∃ (p : Addr) (its : List V) (x : PyData) (xs : List PyData), vs = [.ref p] ∧ SqL K H p its ∧ DpAll K H its (x :: xs) ∧ PyData.canLayAll0 (x :: xs) = true ∧ PySem.W.AlikeAll (x :: xs) ∧ PyData.depthAll (x :: xs) ≤ 60 ∧
  ∀ (i : Nat) (v : V), its[i]? = some v → (x :: xs)[i]? = some (PySem.W.minD x xs) → Q v H
def rMaxD (K : Fg) : List V → Hp → VK → Prop := fun vs H Q => ∃ (p : Addr) (its : List V) (x : PyData) (xs : List PyData), vs = [.ref p] ∧ SqL K H p its ∧ DpAll K H its (x :: xs) ∧ PyData.canLayAll0 (x :: xs) = true ∧ PySem.W.AlikeAll (x :: xs) ∧ PyData.depthAll (x :: xs) ≤ 60 ∧
  ∀ (i : Nat) (v : V), its[i]? = some v → (x :: xs)[i]? = some (PySem.W.maxD x xs) → Q v H
theorem canLay_get : ∀ {ds : List PyData} {i : Nat} {d : PyData}, PyData.canLayAll0 ds = true → ds[i]? = some d → d.canLay0 = true
  | [], _, _, _, e => by simp at e
  | d :: ds, 0, _, c, e => by
    rw [PyData.canLayAll0] at c
    simp at e; subst e
    exact (Bool.and_eq_true_iff.mp c).1
  | d :: ds, i + 1, _, c, e => by
    rw [PyData.canLayAll0] at c
    exact canLay_get (Bool.and_eq_true_iff.mp c).2 (by simpa using e)
theorem readsAll_get {h : Heap} : ∀ {us : List Value} {ds : List PyData} {as : List Addr} {i : Nat} {u : Value}, ReadsAll h us ds as → us[i]? = some u → ∃ d bs, ds[i]? = some d ∧ Reads h u d bs
  | _, _, _, _, _, .nil, e => by simp at e
  | _, _, _, 0, _, .cons r _, e => by simp at e; subst e; exact ⟨_, _, rfl, r⟩
  | _, _, _, i + 1, _, .cons _ r, e => by
    obtain ⟨d, bs, h1, h2⟩ := readsAll_get (i := i) r (by simpa using e)
    exact ⟨d, bs, by simpa using h1, h2⟩
theorem cr_minD (hc : X.calm = true) (hu : X.A.units + 64 < cLine) : CallR X (.builtin "min") (rMinD X.K) := by
  intro pins s σ H vs us Q I r h
  obtain ⟨p, its, x, xs, rfl, hs, hd, hl0, hal, hdep, q⟩ := h
  obtain ⟨uts, rv, pl, hz⟩ := I.list hs
  rw [Vals.ref1 r]
  obtain ⟨as, hr⟩ := Dp.readsAll I (x :: xs) its uts hd rv
  refine PySem.W.min_list_data (I.ok.hd hc) pl.isList hr hal (by omega) fun i u h' tk bs hi hr' hk => ?_
  have hi' : uts[i]? = some u := by simpa using hi
  obtain ⟨d, cs, e1, r1⟩ := readsAll_get hr hi'
  have r1' := PyProof.Rows.Reads.keeps hk r1
  have e2 : d = PySem.W.minD x xs := PySem.SeqAt.Reads.unique d _ u _ _ (canLay_get hl0 e1) r1' hr'
  have hlen := rv.length
  have hi2 : i < its.length := by
    have := (List.getElem?_eq_some_iff.mp hi').1
    omega
  obtain ⟨w, hw, rw'⟩ := Vals.get rv (List.getElem?_eq_getElem hi2)
  rw [hi'] at hw; cases hw
  exact ⟨_, H, I.kept hk, rw', q i _ (List.getElem?_eq_getElem hi2) (by rw [e1, e2])⟩
theorem cr_maxD (hc : X.calm = true) (hu : X.A.units + 64 < cLine) : CallR X (.builtin "max") (rMaxD X.K) := by
  intro pins s σ H vs us Q I r h
  obtain ⟨p, its, x, xs, rfl, hs, hd, hl0, hal, hdep, q⟩ := h
  obtain ⟨uts, rv, pl, hz⟩ := I.list hs
  rw [Vals.ref1 r]
  obtain ⟨as, hr⟩ := Dp.readsAll I (x :: xs) its uts hd rv
  refine PySem.W.max_list_data (I.ok.hd hc) pl.isList hr hal (by omega) fun i u h' tk bs hi hr' hk => ?_
  have hi' : uts[i]? = some u := by simpa using hi
  obtain ⟨d, cs, e1, r1⟩ := readsAll_get hr hi'
  have r1' := PyProof.Rows.Reads.keeps hk r1
  have e2 : d = PySem.W.maxD x xs := PySem.SeqAt.Reads.unique d _ u _ _ (canLay_get hl0 e1) r1' hr'
  have hlen := rv.length
  have hi2 : i < its.length := by
    have := (List.getElem?_eq_some_iff.mp hi').1
    omega
  obtain ⟨w, hw, rw'⟩ := Vals.get rv (List.getElem?_eq_getElem hi2)
  rw [hi'] at hw; cases hw
  exact ⟨_, H, I.kept hk, rw', q i _ (List.getElem?_eq_getElem hi2) (by rw [e1, e2])⟩
/-- the first least, the first greatest, by < -/
def minB {α : Type} (lt : α → α → Bool) : List α → Option α
  | [] => none
  | x :: xs => some (xs.foldl (fun a y => if lt y a = true then y else a) x)
def maxB {α : Type} (lt : α → α → Bool) : List α → Option α
  | [] => none
  | x :: xs => some (xs.foldl (fun a y => if lt a y = true then y else a) x)
theorem minD_enc {E : Enc α} {lt : α → α → Bool} (od : Od E lt) : ∀ (xs : List α) (x : α), PySem.W.minD (E.enc x) (xs.map E.enc) = E.enc (xs.foldl (fun a y => if lt y a = true then y else a) x)
  | [], x => rfl
  | y :: xs, x => by
    show List.foldl _ (if PySem.W.dataLt (E.enc y) (E.enc x) = true then E.enc y else E.enc x) (xs.map E.enc) = _
    rw [od.lt, List.foldl_cons]
    have := minD_enc od xs (if lt y x = true then y else x)
    unfold PySem.W.minD at this
    rw [← this]
    congr 1
    cases lt y x <;> simp
theorem maxD_enc {E : Enc α} {lt : α → α → Bool} (od : Od E lt) : ∀ (xs : List α) (x : α), PySem.W.maxD (E.enc x) (xs.map E.enc) = E.enc (xs.foldl (fun a y => if lt a y = true then y else a) x)
  | [], x => rfl
  | y :: xs, x => by
    show List.foldl _ (if PySem.W.dataLt (E.enc x) (E.enc y) = true then E.enc y else E.enc x) (xs.map E.enc) = _
    rw [od.lt, List.foldl_cons]
    have := maxD_enc od xs (if lt x y = true then y else x)
    unfold PySem.W.maxD at this
    rw [← this]
    congr 1
    cases lt x y <;> simp
theorem od_all {E : Enc α} {lt : α → α → Bool} (od : Od E lt) (xs : List α) : PySem.W.AlikeAll (xs.map E.enc) := ⟨fun x hx y hy => by
  obtain ⟨a, _, rfl⟩ := List.mem_map.mp hx
  obtain ⟨b, _, rfl⟩ := List.mem_map.mp hy
  exact od.al a b, fun x hx => by
  obtain ⟨a, _, rfl⟩ := List.mem_map.mp hx
  exact od.nn a⟩
section
variable {E : Enc α} {lt : α → α → Bool} {g : τ → List α} {f : (τ → P → Option Ω) → Option Ω} {n : Nat}
theorem dts {E : Enc α} (dt : Dt E n) (xs : List α) : PyData.canLayAll0 (xs.map E.enc) = true ∧ PyData.depthAll (xs.map E.enc) ≤ n :=
  ⟨canLayAll_of fun d m => by obtain ⟨y, _, rfl⟩ := List.mem_map.mp m; exact dt.lay y, depthAll_of fun d m => by obtain ⟨y, _, rfl⟩ := List.mem_map.mp m; exact dt.dep y⟩
theorem lx_minD (hc : X.calm = true) (hu : X.A.units + 64 < cLine) (od : Od E lt) (dt : Dt E n) (hv : LVw S (it E) g) (hm : X.mg "min" = none) (ha : LO X G env a S e' f) (hG : ∀ p, G (e' p)) (hn : n ≤ 60 := by decide) (hg : Gl X "min" := by rfl) (he : starEach (a :: []) X.env = (false, eval a X.env) :: starEach [] X.env := by rfl) (hpl : (backTo pos (starEach [] X.env)).any (·.1) = false := by rfl) :
    LX X env (.Call (.Name "min" np) [a] [] pos) (it E) e' (fun k => f fun x p => (minB lt (g x)).bind fun y => k y p) :=
  lx_b1 (E := E) (g := fun x : τ => minB lt (g x)) (cr_minD hc hu) hm boot_min ha hG (fun K F H fp v x y Q hK s hy r q => by
    subst hK
    obtain ⟨p, vs, fps, rfl, h1, h2⟩ := hv.view s r
    have rp := h2.zero.2
    cases hgx : g x with
    | nil => rw [hgx] at hy; cases hy
    | cons z zs =>
      rw [hgx] at hy rp
      have hy' : y = zs.foldl (fun a y => if lt y a = true then y else a) z := (Option.some.inj hy).symm
      have hd := dts dt (z :: zs)
      refine ⟨p, vs, E.enc z, zs.map E.enc, rfl, h1, rp.dp s hd.1, hd.1, od_all od (z :: zs), Nat.le_trans hd.2 hn, fun i v hi hv => ?_⟩
      rw [minD_enc od, ← hy'] at hv
      obtain ⟨w, hw, rr⟩ := rp.get (i := i) (d := E.enc y) (by rw [← hv]; rfl)
      rw [hi] at hw; cases hw
      exact q _ rr) hg (by decide) (by decide) he hpl
theorem lx_maxD (hc : X.calm = true) (hu : X.A.units + 64 < cLine) (od : Od E lt) (dt : Dt E n) (hv : LVw S (it E) g) (hm : X.mg "max" = none) (ha : LO X G env a S e' f) (hG : ∀ p, G (e' p)) (hn : n ≤ 60 := by decide) (hg : Gl X "max" := by rfl) (he : starEach (a :: []) X.env = (false, eval a X.env) :: starEach [] X.env := by rfl) (hpl : (backTo pos (starEach [] X.env)).any (·.1) = false := by rfl) :
    LX X env (.Call (.Name "max" np) [a] [] pos) (it E) e' (fun k => f fun x p => (maxB lt (g x)).bind fun y => k y p) :=
  lx_b1 (E := E) (g := fun x : τ => maxB lt (g x)) (cr_maxD hc hu) hm boot_max ha hG (fun K F H fp v x y Q hK s hy r q => by
    subst hK
    obtain ⟨p, vs, fps, rfl, h1, h2⟩ := hv.view s r
    have rp := h2.zero.2
    cases hgx : g x with
    | nil => rw [hgx] at hy; cases hy
    | cons z zs =>
      rw [hgx] at hy rp
      have hy' : y = zs.foldl (fun a y => if lt a y = true then y else a) z := (Option.some.inj hy).symm
      have hd := dts dt (z :: zs)
      refine ⟨p, vs, E.enc z, zs.map E.enc, rfl, h1, rp.dp s hd.1, hd.1, od_all od (z :: zs), Nat.le_trans hd.2 hn, fun i v hi hv => ?_⟩
      rw [maxD_enc od, ← hy'] at hv
      obtain ⟨w, hw, rr⟩ := rp.get (i := i) (d := E.enc y) (by rw [← hv]; rfl)
      rw [hi] at hw; cases hw
      exact q _ rr) hg (by decide) (by decide) he hpl
end
end
end Z

set_option Elab.async false
set_option linter.all false
set_option maxRecDepth 100000
namespace Z
open PySem PySem.Spec PyProof.Rows L2

/-- a slice, as the layer cuts it -/
def cutL {α : Type} (xs : List α) (lo hi : Option Int) : List α := (xs.drop (HT.sIx xs.length 0 lo)).take (HT.sIx xs.length xs.length hi - HT.sIx xs.length 0 lo)
section
variable {X : Cx} {Ω : Type} {env : Env} {nm : Str} {pos np sp : Pos} {a b c : Expr} {P P1 P2 P3 : Type} {τ τ1 τ2 α β : Type} {S : Stor τ} {S1 : Stor τ1} {S2 : Stor τ2} {E : Enc α} {Eb : Enc β} {G : Env → Prop} {G1 : Env → Prop} {G2 : P1 → Env → Prop} {e' : P → Env} {e1 : P1 → Env} {e2 : P1 → P2 → Env} {e3 : P1 → P2 → P3 → Env}
  {fa : (τ1 → P1 → Option Ω) → Option Ω} {fb : P1 → (τ2 → P2 → Option Ω) → Option Ω} {g1 : τ1 → List α} {g2 : τ2 → List α}
/-- xs + ys -/
theorem lx_cat (hv1 : LVm S1 (it E) g1) (hv2 : LVm S2 (it E) g2) (ha : LO X G1 env a S1 e1 fa) (hb : ∀ p1, LO X (G2 p1) (e1 p1) b S2 (e2 p1) (fb p1)) (h1 : ∀ p1 p2, G1 (e2 p1 p2)) (h2 : ∀ p1 p2, G2 p1 (e2 p1 p2)) :
    LX X env (.BinOp a .Add b pos) (ls (it E)) (fun p : P1 × P2 => e2 p.1 p.2) (fun k => fa fun x p1 => fb p1 fun y p2 => ck (decide ((g1 x).length + (g2 y).length ≤ SZ)) (k (g1 x ++ g2 y) (p1, p2))) :=
  fun C F H σs es σ k ω Q hK hl h hk q => tE.of X (pe_op op_cat (peC X) (peC X)) (op2_run ha hb h1 h2 hK hl h hk fun x p1 y p2 v u F' H' fp fq hk' h' r1 r2 => by
    obtain ⟨hc, hk'⟩ := ck_some hk'
    obtain ⟨p, vs, fps, rfl, l1, ra⟩ := hv1.view h'.sF r1
    obtain ⟨p', ws, fqs, rfl, l2, rb⟩ := hv2.view h'.sF r2
    have hc' := of_decide_eq_true hc
    have n1 := ra.length
    have n2 := rb.length
    refine ⟨p, p', vs, ws, rfl, rfl, l1, l2, by rw [SZ_eq]; omega, fun t nt => ?_⟩
    refine q (g1 x ++ g2 y) (p1, p2) (.ref t) F' _ hk' (h'.newOw nt ⟨t, vs ++ ws, [], rfl, upd_same, ?_, rfl⟩)
    have := ra.zero.2.app rb.zero.2
    rw [← List.map_append] at this
    exact this.zero)
theorem RepAll.cut {K : Fg} {F : Hp} {vs : List V} {xs : List α} (lo hi : Option Int) (h : RepAll K F vs (xs.map E.enc)) : RepAll K F (cutV vs lo hi) ((cutL xs lo hi).map E.enc) := by
  have hl : vs.length = xs.length := by have := h.length; simpa using this
  unfold cutV cutL
  rw [hl, List.map_take, List.map_drop]
  exact (h.drop _).take _
/-- xs[i:j] -/
theorem lx_sl2 {fi : P1 → (Int → P2 → Option Ω) → Option Ω} {fj : P1 → P2 → (Int → P3 → Option Ω) → Option Ω} (hv : LVw S1 (it E) g1) (ha : LX X env a S1 e1 fa) (hi : ∀ p1, LX X (e1 p1) b (it eI) (e2 p1) (fi p1)) (hj : ∀ p1 p2, LX X (e2 p1 p2) c (it eI) (e3 p1 p2) (fj p1 p2)) :
    LX X env (.Subscript a (.Slice (some b) (some c) none sp) pos) (ls (it E)) (fun p : P1 × P2 × P3 => e3 p.1 p.2.1 p.2.2) (fun k => fa fun x p1 => fi p1 fun i p2 => fj p1 p2 fun j p3 => k (cutL (g1 x) (some i) (some j)) (p1, p2, p3)) :=
  fun C F H σs es σ k ω Q hK hl h hk q => tE.of X (pe_slice sl_list (peC X) (po_some (peC X)) (po_some (peC X))) (ha C F H σs es σ _ ω _ hK hl h hk fun x p1 v F1 H1 hk1 h1 => by
    refine hi p1 C F1 H1 (some v :: σs) (.st none τ1 S1 x :: es) σ _ ω _ hK (by simp [hl]) h1 hk1 fun i p2 u F2 H2 hk2 h2 => ?_
    have hu : u = .int i := by
      obtain ⟨v', fp, e1, r⟩ := h2.look (i := 0) rfl
      simp at e1; subst e1
      obtain ⟨_, r⟩ := r
      cases r; rfl
    subst hu
    refine ⟨i, rfl, hj p1 p2 C F2 H2 (some v :: σs) (.st none τ1 S1 x :: es) σ _ ω _ hK (by simp [hl]) h2.pop hk2 fun j p3 u F3 H3 hk3 h3 => ?_⟩
    have hu : u = .int j := by
      obtain ⟨v', fp, e1, r⟩ := h3.look (i := 0) rfl
      simp at e1; subst e1
      obtain ⟨_, r⟩ := r
      cases r; rfl
    subst hu
    obtain ⟨v', fp, ee, r⟩ := ER.look (i := 0) (show ER C F3 H3 (some v :: (σs ++ σ)) (.st none τ1 S1 x :: (es ++ e3 p1 p2 p3)) from h3.pop) rfl
    simp at ee; subst ee
    obtain ⟨p, vs, fps, rfl, l1, ra⟩ := hv.view h3.sF r
    refine ⟨j, rfl, p, vs, rfl, by rw [← hK]; exact l1, fun t nt => ?_⟩
    exact q _ (p1, p2, p3) (.ref t) F3 _ hk3 (ER.newOw (show ER C F3 H3 (σs ++ σ) (es ++ e3 p1 p2 p3) from h3.pop.pop) nt ⟨t, _, [], rfl, upd_same, (ra.zero.2.cut (some i) (some j)).zero, rfl⟩))
/-- xs[i:] -/
theorem lx_slL {fi : P1 → (Int → P2 → Option Ω) → Option Ω} (hv : LVw S1 (it E) g1) (ha : LX X env a S1 e1 fa) (hi : ∀ p1, LX X (e1 p1) b (it eI) (e2 p1) (fi p1)) :
    LX X env (.Subscript a (.Slice (some b) none none sp) pos) (ls (it E)) (fun p : P1 × P2 => e2 p.1 p.2) (fun k => fa fun x p1 => fi p1 fun i p2 => k (cutL (g1 x) (some i) none) (p1, p2)) :=
  fun C F H σs es σ k ω Q hK hl h hk q => tE.of X (pe_slice sl_list (peC X) (po_some (peC X)) po_none) (op2_run (lo_of ha) (fun p1 => lo_of (hi p1)) (fun _ _ => trivial) (fun _ _ => trivial) (R := fun x y H => ∃ i, y = .int i ∧ rSlL X.K x (some i) none H Q) hK hl h hk
    (fun x p1 i p2 v u F' H' fp fq hk' h' r1 r2 => by
      obtain ⟨_, r2⟩ := r2
      cases r2
      obtain ⟨p, vs, fps, rfl, l1, ra⟩ := hv.view h'.sF r1
      exact ⟨i, rfl, p, vs, rfl, by rw [← hK]; exact l1, fun t nt => q _ (p1, p2) (.ref t) F' _ hk' (h'.newOw nt ⟨t, _, [], rfl, upd_same, (ra.zero.2.cut (some i) none).zero, rfl⟩)⟩))
/-- xs[:j] -/
theorem lx_slR {fi : P1 → (Int → P2 → Option Ω) → Option Ω} (hv : LVw S1 (it E) g1) (ha : LX X env a S1 e1 fa) (hi : ∀ p1, LX X (e1 p1) b (it eI) (e2 p1) (fi p1)) :
    LX X env (.Subscript a (.Slice none (some b) none sp) pos) (ls (it E)) (fun p : P1 × P2 => e2 p.1 p.2) (fun k => fa fun x p1 => fi p1 fun j p2 => k (cutL (g1 x) none (some j)) (p1, p2)) :=
  fun C F H σs es σ k ω Q hK hl h hk q => tE.of X (pe_slice sl_list (peC X) po_none (po_some (peC X))) (op2_run (lo_of ha) (fun p1 => lo_of (hi p1)) (fun _ _ => trivial) (fun _ _ => trivial) (R := fun x y H => ∃ i, y = .int i ∧ rSlL X.K x none (some i) H Q) hK hl h hk
    (fun x p1 i p2 v u F' H' fp fq hk' h' r1 r2 => by
      obtain ⟨_, r2⟩ := r2
      cases r2
      obtain ⟨p, vs, fps, rfl, l1, ra⟩ := hv.view h'.sF r1
      exact ⟨i, rfl, p, vs, rfl, by rw [← hK]; exact l1, fun t nt => q _ (p1, p2) (.ref t) F' _ hk' (h'.newOw nt ⟨t, _, [], rfl, upd_same, (ra.zero.2.cut none (some i)).zero, rfl⟩)⟩))

/-! ### sorted -/
def rSortD (K : Fg) : List V → Hp → VK → Prop := fun vs H Q => ∃ (p : Addr) (its : List V) (ds : List PyData), vs = [.ref p] ∧ SqL K H p its ∧ DpAll K H its ds ∧ PySem.W.AllAlike ds ∧ PySem.W.Sortable ds ∧ (∀ d ∈ ds, d.depth ≤ 60) ∧
  ∀ t, H t = none → Q (.ref t) (upd H t (.lst (((its.zip ds).mergeSort (PySem.W.dataLe false Prod.snd)).map Prod.fst)))
theorem eachIs_zip {its : List V} {ds : List PyData} {us : List Value} (h : Vals its us) : its.length = ds.length → PySem.W.EachIs (fun (u : Value) (p : V × PyData) => RelV p.1 u) us (its.zip ds) := by
  intro hl
  induction h generalizing ds with
  | nil => cases ds with
    | nil => exact .nil
    | cons d ds => simp at hl
  | cons r t ih => cases ds with
    | nil => simp at hl
    | cons d ds => exact .cons r (ih (by simpa using hl))
theorem eachIs_reads {h : Heap} {its : List V} {ds : List PyData} {us : List Value} {as : List Addr} (hr : ReadsAll h us ds as) (hl : its.length = ds.length) : PySem.W.EachIs (fun (u : Value) (p : V × PyData) => ∃ as, Reads h u p.2 as) us (its.zip ds) := by
  induction us generalizing its ds as with
  | nil => cases hr; cases its with
    | nil => exact .nil
    | cons _ _ => simp at hl
  | cons u us ih =>
    cases hr with
    | cons r1 r2 => cases its with
      | nil => simp at hl
      | cons v its => exact .cons ⟨_, r1⟩ (ih r2 (by simpa using hl))
theorem eachIs_vals {out : List Value} {ps : List (V × PyData)} (h : PySem.W.EachIs (fun (u : Value) (p : V × PyData) => RelV p.1 u) out ps) : Vals (ps.map Prod.fst) out := by
  induction h with
  | nil => exact .nil
  | cons r _ ih => exact .cons r ih
theorem dpAll_length {K : Fg} {H : Hp} : ∀ {vs : List V} {ds : List PyData}, DpAll K H vs ds → vs.length = ds.length
  | _, _, .nil => rfl
  | _, _, .cons _ r => congrArg (· + 1) (dpAll_length r)
theorem cr_sortD (hu : X.A.units + 64 < cLine) : CallR X (.builtin "sorted") (rSortD X.K) := by
  intro pins s σ H vs us Q I r h
  obtain ⟨p, its, ds, rfl, hs, hd, hal, hso, hdep, q⟩ := h
  obtain ⟨uts, rv, pl, hz⟩ := I.list hs
  rw [Vals.ref1 r]
  obtain ⟨as, hr⟩ := Dp.readsAll I ds its uts hd rv
  have hl := dpAll_length hd
  have hm : (its.zip ds).map Prod.snd = ds := by rw [List.map_snd_zip (by omega)]
  refine PySem.W.sorted_data (enc := Prod.snd) (bs := its.zip ds) (R := fun (u : Value) (p : V × PyData) => RelV p.1 u) pl.isList (eachIs_zip rv hl) (eachIs_reads hr hl) (by rw [hm]; exact hal) (by rw [hm]; exact hso) (by rw [List.length_zip]; omega) (fun b hb => ?_) fun out ho eo => ?_
  · have : b.2 ∈ ds := by rw [← hm]; exact List.mem_map_of_mem hb
    have := hdep _ this
    omega
  · obtain ⟨ep, he'⟩ := PyProof.Rows.sortedAll_at s.heap uts out.toArray
    have rv' := eachIs_vals eo
    have hlen : (((its.zip ds).mergeSort (PySem.W.dataLe false Prod.snd)).map Prod.fst).length ≤ sizeLine := by
      rw [List.length_map, List.length_mergeSort, List.length_zip]; omega
    exact ⟨.ref _, upd H (s.heap.objs.size + 1) (.lst (((its.zip ds).mergeSort (PySem.W.dataLe false Prod.snd)).map Prod.fst)), I.laid (t' := s.toks) (fun _ _ => PyProof.Rows.sortedAll_old) (Nat.le_succ _) ⟨hlen, out, ep, rv', he'⟩, rfl, q _ (I.hok.fresh (Nat.le_succ _))⟩
/-- sorted by <, equal ones as they stood -/
def sortB {α : Type} (lt : α → α → Bool) (xs : List α) : List α := xs.mergeSort fun x y => !lt y x
/-- tuples that are not empty, or no tuples -/
structure So (E : Enc α) : Prop where
  so : (∀ x, ∃ y r, E.enc x = .tuple (y :: r)) ∨ ∀ x, E.enc x ≠ .none ∧ ∀ r, E.enc x ≠ .tuple r
theorem soI : So eI := ⟨.inr fun _ => ⟨(fun h => by cases h), (fun _ h => by cases h)⟩⟩
theorem soT2 {A : Enc α} {B : Enc β} : So (eT2 A B) := ⟨.inl fun _ => ⟨_, _, rfl⟩⟩
theorem soT3 {γ : Type} {A : Enc α} {B : Enc β} {D : Enc γ} : So (eT3 A B D) := ⟨.inl fun _ => ⟨_, _, rfl⟩⟩
theorem soT4 {γ δ : Type} {A : Enc α} {B : Enc β} {D : Enc γ} {D' : Enc δ} : So (eT4 A B D D') := ⟨.inl fun _ => ⟨_, _, rfl⟩⟩
theorem zip_rep {K : Fg} {F : Hp} : ∀ {vs : List V} {xs : List α}, RepAll K F vs (xs.map E.enc) → (vs.zip (xs.map E.enc)) = (vs.zip xs).map fun p => (p.1, E.enc p.2)
  | [], _, _ => rfl
  | _ :: _, [], h => by cases h
  | v :: vs, x :: xs, h => by
    cases h with
    | cons h1 h2 =>
      show (v, E.enc x) :: vs.zip (xs.map E.enc) = (v, E.enc x) :: (vs.zip xs).map _
      rw [zip_rep h2]
theorem rep_zip {K : Fg} {F : Hp} : ∀ {vs : List V} {xs : List α}, RepAll K F vs (xs.map E.enc) → ∀ p ∈ vs.zip xs, Rep K F p.1 (E.enc p.2)
  | [], _, _, p, m => by simp at m
  | _ :: _, [], h, _, _ => by cases h
  | v :: vs, x :: xs, h, p, m => by
    cases h with
    | cons h1 h2 =>
      rcases List.mem_cons.mp m with rfl | m
      · exact h1
      · exact rep_zip h2 p m
theorem RepAll.of_pairs {K : Fg} {F : Hp} : ∀ (ps : List (V × α)), (∀ p ∈ ps, Rep K F p.1 (E.enc p.2)) → RepAll K F (ps.map Prod.fst) ((ps.map Prod.snd).map E.enc)
  | [], _ => .nil
  | p :: ps, h => .cons (h p List.mem_cons_self) (RepAll.of_pairs ps fun q m => h q (List.mem_cons_of_mem _ m))
theorem sort_pairs {K : Fg} {F : Hp} {lt : α → α → Bool} (od : Od E lt) {vs : List V} {xs : List α} (h : RepAll K F vs (xs.map E.enc)) :
    RepAll K F (((vs.zip (xs.map E.enc)).mergeSort (PySem.W.dataLe false Prod.snd)).map Prod.fst) ((sortB lt xs).map E.enc) := by
  have hl : vs.length = xs.length := by have := h.length; simpa using this
  have e0 : ((vs.zip xs).mergeSort fun p q => !lt q.2 p.2).map (fun p => (p.1, E.enc p.2)) = (vs.zip (xs.map E.enc)).mergeSort (PySem.W.dataLe false Prod.snd) := by
    rw [zip_rep h]
    refine PySem.W.sort_maps _ fun p _ q _ => ?_
    rw [PySem.W.dataLe_eq]
    show (!lt q.2 p.2) = !PySem.W.dataLt (E.enc q.2) (E.enc p.2)
    rw [od.lt]
  rw [← e0, List.map_map]
  have e1 : ((vs.zip xs).mergeSort fun p q => !lt q.2 p.2).map Prod.snd = sortB lt xs := by
    unfold sortB
    rw [PySem.W.sort_maps (s := fun x y => !lt y x) Prod.snd (fun p _ q _ => rfl), List.map_snd_zip (by omega)]
  rw [← e1]
  exact RepAll.of_pairs _ fun p m => rep_zip h p (List.mem_mergeSort.mp m)
theorem lx_sorted {lt : α → α → Bool} {n : Nat} {g : τ → List α} {f : (τ → P → Option Ω) → Option Ω} (hu : X.A.units + 64 < cLine) (od : Od E lt) (so : So E) (dt : Dt E n) (hv : LVw S (it E) g) (hm : X.mg "sorted" = none) (ha : LO X G env a S e' f) (hG : ∀ p, G (e' p)) (hn : n ≤ 60 := by decide) (hg : Gl X "sorted" := by rfl) (he : starEach (a :: []) X.env = (false, eval a X.env) :: starEach [] X.env := by rfl) (hpl : (backTo pos (starEach [] X.env)).any (·.1) = false := by rfl) :
    LX X env (.Call (.Name "sorted" np) [a] [] pos) (ls (it E)) e' (fun k => f fun x p => (some (sortB lt (g x))).bind fun y => k y p) :=
  lx_b1n (E := E) (g := fun x : τ => some (sortB lt (g x))) (cr_sortD hu) hm PyProof.Rows.boot_sorted ha hG (fun K F H fp v x y Q hK s hy r q => by
    subst hK
    cases hy
    obtain ⟨p, vs, fps, rfl, h1, h2⟩ := hv.view s r
    have rp := h2.zero.2
    have hd := dts dt (g x)
    refine ⟨p, vs, (g x).map E.enc, rfl, h1, rp.dp s hd.1, (od_all od (g x)).1, ?_, fun d m => by obtain ⟨y, _, rfl⟩ := List.mem_map.mp m; exact Nat.le_trans (dt.dep y) hn, fun t nt => q t _ nt (sort_pairs od rp)⟩
    rcases so.so with so | so
    · exact .inl fun d m => by obtain ⟨y, _, rfl⟩ := List.mem_map.mp m; exact so y
    · exact .inr fun d m => by obtain ⟨y, _, rfl⟩ := List.mem_map.mp m; exact so y) hg (by decide) (by decide) he hpl

/-! ### enumerate, zip -/
def enumL {α : Type} (xs : List α) : List (Int × α) := xs.zipIdx.map fun p => ((p.2 : Int), p.1)
theorem enumL_get {α : Type} (xs : List α) (i : Nat) : (enumL xs)[i]? = (xs[i]?).map fun x => ((i : Int), x) := by
  unfold enumL
  rw [List.getElem?_map, List.getElem?_zipIdx]
  cases xs[i]? <;> simp
theorem li_enum {f : (τ → P → Option Ω) → Option Ω} {g : τ → List α} {elts : List Expr} {kk : Nat} {tp p : Pos} (hg : Gl X "enumerate") (hm : X.mg "enumerate" = none) (hv : LVw S (it E) g) (h : LX X env a S e' f) (hs : starEach [a] X.env = [(false, eval a X.env)] := by rfl) (hs4 : starEach [a] X.env = (false, eval a X.env) :: starEach [] X.env := by rfl) :
    LI X env (.Tuple elts kk tp) (.Call (.Name "enumerate" p) [a] [] pos) (it (eT2 eI E)) e' (fun k => f fun x q => k (enumL (g x)) q) :=
  fun C F H σs es σ k ω R hK hl hr hk q => tI.of X (pi_enum hg hm (pa_cons (peC X) pa_nil hs4) hs) (h C F H σs es σ _ ω _ hK hl hr hk fun x p v F' H' hk' h' => by
    obtain ⟨v', fp, e1, r⟩ := h'.look (i := 0) rfl
    simp at e1; subst e1
    obtain ⟨p0, vs, fps, rfl, hs, ra⟩ := hv.view h'.sF r
    refine ⟨p0, vs, rfl, by rw [← hK]; exact hs, q (enumL (g x)) p (Ite X.K p0) F' H' [some (.ref p0)] [.st none τ S x] hk' h' ⟨rfl, fun i F2 H2 σ2 σb e2 eb hl2 h2 => ?_⟩⟩
    obtain ⟨v', fp', e1, r'⟩ := h2.look (i := e2.length + 0) (by rw [at_app _ rfl]; rfl)
    rw [at_app _ hl2] at e1
    simp at e1; subst e1
    obtain ⟨p1, ws, fps', e3, hs', ra'⟩ := hv.view h2.sF r'
    cases e3
    rw [hK] at hs'
    have rp := ra'.zero.2
    rw [enumL_get]
    refine ⟨fun y hy => ?_, fun hn => ?_⟩
    · cases hgi : (g x)[i]? with
      | none => rw [hgi] at hy; cases hy
      | some z =>
        rw [hgi] at hy
        cases hy
        obtain ⟨w, hw, rw'⟩ := rp.get (i := i) (d := E.enc z) (by rw [List.getElem?_map, hgi]; rfl)
        refine ⟨⟨ws, w, hs', hw⟩, fun v H' hy' => ?_⟩
        obtain ⟨T, w', rfl, nT, rfl, hy'⟩ := hy'
        have := hy' ws hs'
        rw [hw] at this; cases this
        refine ⟨upd F2 T (.tup [.int (i : Nat), w]), (h2.newF nT).pushSh ?_⟩
        exact .tup (SqT.of upd_same) (.cons (.int _) (.cons (rw'.mono (same_new (h2.fnone nT))) .nil))
    · refine ⟨ws, hs', ?_⟩
      have := rp.length
      simp at this
      cases hgi : (g x)[i]? with
      | none => have := List.getElem?_eq_none_iff.mp hgi; omega
      | some z => rw [hgi] at hn; cases hn)
theorem li_zip {fa : (τ1 → P1 → Option Ω) → Option Ω} {fb : P1 → (τ2 → P2 → Option Ω) → Option Ω} {g2 : τ2 → List β} {elts : List Expr} {kk : Nat} {tp p : Pos} (hg : Gl X "zip") (hm : X.mg "zip" = none) (hv : LVw S1 (it E) g1) (hv2 : LVw S2 (it Eb) g2) (h : LX X env a S1 e1 fa) (h2 : ∀ p1, LX X (e1 p1) b S2 (e2 p1) (fb p1))
    (hs : starEach [a, b] X.env = (false, eval a X.env) :: starEach [b] X.env := by rfl) (hs4 : starEach [b] X.env = (false, eval b X.env) :: starEach [] X.env := by rfl) (hpl : (backTo pos (starEach [b] X.env)).any (·.1) = false := by rfl) :
    LI X env (.Tuple elts kk tp) (.Call (.Name "zip" p) [a, b] [] pos) (it (eT2 E Eb)) (fun q : P1 × P2 => e2 q.1 q.2) (fun k => fa fun x p1 => fb p1 fun y p2 => k ((g1 x).zip (g2 y)) (p1, p2)) :=
  fun C F H σs es σ k ω R hK hl hr hk q => tI.of X (pi_zip hg hm (pa_cons (peC X) (pa_cons (peC X) pa_nil hs4) hs) hs hpl) (h C F H σs es σ _ ω _ hK hl hr hk fun x p1 v F1 H1 hk1 h1 =>
    h2 p1 C F1 H1 (some v :: σs) (.st none τ1 S1 x :: es) σ _ ω _ hK (by simp [hl]) h1 hk1 fun y p2 u F' H' hk' h' => by
      have h'' : ER C F' H' ([some u, some v] ++ (σs ++ σ)) ([.st none τ2 S2 y, .st none τ1 S1 x] ++ (es ++ e2 p1 p2)) := h'
      obtain ⟨u', fq, eq1, rq⟩ := h''.look (i := 0) rfl
      simp at eq1; subst eq1
      obtain ⟨v', fp, ev1, rv⟩ := h''.look (i := 1) rfl
      simp at ev1; subst ev1
      obtain ⟨pb, ws, fqs, rfl, hsb, rb⟩ := hv2.view h''.sF rq
      obtain ⟨pa, vs, fps, rfl, hsa, ra⟩ := hv.view h''.sF rv
      refine ⟨pa, pb, vs, ws, rfl, by rw [← hK]; exact hsa, by rw [← hK]; exact hsb, q ((g1 x).zip (g2 y)) (p1, p2) (Itz X.K pa pb) F' H' [some (.ref pb), some (.ref pa)] [.st none τ2 S2 y, .st none τ1 S1 x] hk' h'' ⟨rfl, fun i F2 H2 σ2 σb e2' eb hl2 h3 => ?_⟩⟩
      obtain ⟨u', fq', eq1, rq'⟩ := h3.look (i := e2'.length + 0) (by rw [at_app _ rfl]; rfl)
      rw [at_app _ hl2] at eq1
      simp at eq1; subst eq1
      obtain ⟨v', fp', ev1, rv'⟩ := h3.look (i := e2'.length + 1) (by rw [at_app _ rfl]; rfl)
      rw [at_app _ hl2] at ev1
      simp at ev1; subst ev1
      obtain ⟨pb', ws', fqs', e5, hsb', rb'⟩ := hv2.view h3.sF rq'
      obtain ⟨pa', vs', fps', e6, hsa', ra'⟩ := hv.view h3.sF rv'
      cases e5; cases e6
      rw [hK] at hsb' hsa'
      have rpb := rb'.zero.2
      have rpa := ra'.zero.2
      have lb := rpb.length
      have la := rpa.length
      simp at lb la
      refine ⟨fun z hz => ?_, fun hn => ?_⟩
      · rw [List.getElem?_zip_eq_some] at hz
        obtain ⟨hz1, hz2⟩ := hz
        obtain ⟨w1, hw1, rw1⟩ := rpa.get (i := i) (d := E.enc z.1) (by rw [List.getElem?_map, hz1]; rfl)
        obtain ⟨w2, hw2, rw2⟩ := rpb.get (i := i) (d := Eb.enc z.2) (by rw [List.getElem?_map, hz2]; rfl)
        refine ⟨⟨vs', ws', w1, w2, hsa', hsb', hw1, hw2⟩, fun v H' hy' => ?_⟩
        obtain ⟨T, x1, x2, rfl, nT, rfl, hy1, hy2⟩ := hy'
        have t1 := hy1 vs' hsa'
        have t2 := hy2 ws' hsb'
        rw [hw1] at t1; cases t1
        rw [hw2] at t2; cases t2
        refine ⟨upd F2 T (.tup [w1, w2]), (h3.newF nT).pushSh ?_⟩
        have sm := same_new (u := HO.tup [w1, w2]) (h3.fnone nT)
        exact .tup (SqT.of upd_same) (.cons (rw1.mono sm) (.cons (rw2.mono sm) .nil))
      · refine ⟨vs', ws', hsa', hsb', ?_⟩
        have := List.getElem?_eq_none_iff.mp hn
        rw [List.length_zip] at this
        omega)
end
section
variable {X : Cx} {R I Ω : Type} {SR : Stor R} {envR : I → Env} {kr : R → I → Option Ω} {bk ct : Lp Ω} {env : Env} {nm : Str} {pos : Pos} {e : Expr} {rest : List Stmt} {P : Type} {τ α : Type} {S : Stor τ} {E : Enc α} {e' : P → Env} {J : Type} {envJ : J → Env} {g : τ → List α}
/-- x.extend(ys), x a list of one's own -/
theorem lb_ext {f : (τ → P → Option Ω) → Option Ω} {fr : τ → P → (J → Option Ω) → Option Ω} {w : Option V} {x0 : List α} {xs : P → List α} {ap cp np : Pos} (i : Nat) (h0 : env[i]? = some (.st w (List α) (ls (it E)) x0)) (hvw : LVm S (it E) g)
    (he : LX X env e S e' f) (h1 : ∀ p, (e' p)[i]? = some (.st w (List α) (ls (it E)) (xs p))) (hr : ∀ y p, LB X SR envR kr bk ct ((e' p).set i (.st w (List α) (ls (it E)) (xs p ++ g y))) rest envJ (fr y p))
    (hN : X.N[i]? = some nm := by rfl) (hv : Vis X.env.scope nm := by first | exact Or.inl rfl | exact Or.inr (Or.inl rfl) | exact Or.inr (Or.inr rfl))
    (hd : (nm == ("__debug__" : Str)) = false := by decide) (hcd : (nm == ("__classdict__" : Str)) = false := by decide)
    (hbase : attributeBase (.Name nm np) "extend" X.env (eval (.Name nm np) X.env) = eval (.Name nm np) X.env := by rfl)
    (hfew : ((backTo cp (starEach [e] X.env)).all (fun x => !x.1) && (backToKw cp (keywordEach [] X.env)).all (fun x => x.1.isSome) && decide ([e].length + ([] : List Keyword).length + (if ([] : List Keyword).isEmpty then 0 else 1) < 30)) = true := by rfl)
    (hline : (ap.endLine == cp.line) = true := by rfl) (hse : starEach [e] X.env = (false, eval e X.env) :: starEach [] X.env := by rfl) (hplain : (backTo cp (starEach [] X.env)).any (·.1) = false := by rfl)
    (hsw : swapsWith (.Call (.Attribute (.Name nm np) "extend" ap) [e] [] cp) none pos.line X.env = pure false := by rfl) :
    LB X SR envR kr bk ct env (.Expr (.Call (.Attribute (.Name nm np) "extend" ap) [e] [] cp) pos :: rest) envJ (fun kn => f fun y p => ck (decide ((xs p).length + (g y).length ≤ SZ)) (fr y p kn)) :=
  fun C F H σs es σ kn ω D hK hl h hk qn qb qc qr => tSs.of X (pss_cons (ps_expr (pe_bm PySem.F.plainAttrs_list PySem.F.slot_list_extend PySem.F.type_list_extend mt_extend (pe_var hN hv hd hcd) (pa_cons (peC X) pa_nil hse) hbase hfew hline hse hplain) hsw) (pssC X)) (by
    obtain ⟨l, fp, e1, r⟩ := h.lookF hl h0
    obtain ⟨q0, vs0, fps0, rfl, hq0, _, _⟩ := r
    refine ⟨_, e1, .inl ⟨rfl, vs0, SqL.of hq0⟩, he C F H σs es σ _ ω _ hK hl h hk fun y p v F' H' hk' h' => ?_⟩
    obtain ⟨hc, hk'⟩ := ck_some hk'
    have hc' := of_decide_eq_true hc
    obtain ⟨v', fpy, ey, ry⟩ := h'.look (i := 0) rfl
    simp at ey; subst ey
    obtain ⟨pb, zs, fps, rfl, hb, rb⟩ := hvw.view h'.sF ry
    have rpb := rb.zero.2
    obtain ⟨l', fp', e4, r1, nd, ow, fin⟩ := (ER.pop h').mut (i := es.length + i) (by rw [at_app _ rfl]; exact h1 p)
    rw [at_app _ hl, e1] at e4
    cases e4
    obtain ⟨q1, vs, fps', e5, hq, ra, rfl⟩ := r1
    cases e5
    obtain ⟨rfl, rp⟩ := ra.zero
    have n1 : vs.length = (xs p).length := by have := rp.length; simpa using this
    have n2 : zs.length = (g y).length := by have := rpb.length; simpa using this
    refine ⟨q0, pb, vs, zs, rfl, rfl, hq, hb, by rw [SZ_eq]; omega, ?_⟩
    have fin' := fin (List α) (ls (it E)) (xs p ++ g y) (upd H' q0 (.lst (vs ++ zs))) [q0] (fun a na _ => upd_ne fun z => na (by rw [z]; simp)) (fun a m => ?_) ⟨q0, vs ++ zs, [], rfl, upd_same, ?_, rfl⟩ (by simp) (fun a m => ?_)
    · rw [List.set_append_right _ _ (Nat.le_add_right _ _), Nat.add_sub_cancel_left] at fin'
      exact hr y p C F' _ σs es σ kn ω D hK hl fin' hk' qn qb qc qr
    · by_cases z : a = q0
      · subst z; rw [upd_same]; exact fun z => by cases z
      · rw [upd_ne z]; exact m
    · have := rp.app rpb
      rw [← List.map_append] at this
      exact this.zero
    · simp at m; subst m
      exact ⟨by rw [upd_same]; exact (fun z => by cases z), .inl (by simp)⟩)
end
/-! ### the script; the last step -/
theorem lv_scr : LVw scr (it eI) id := ⟨fun {K F H fp v x} s r => by
  obtain ⟨_, a, rfl, q⟩ := r
  exact ⟨a, _, [], rfl, s.seq q, (RepAll.ofInts x).zero⟩⟩
theorem lb_use {X : Cx} {R I Ω J : Type} {SR : Stor R} {envR : I → Env} {kr : R → I → Option Ω} {bk ct : Lp Ω} {env : Env} {sts : List Stmt} {envJ : J → Env} {f f' : (J → Option Ω) → Option Ω} (h : LB X SR envR kr bk ct env sts envJ f) (e : f = f') : LB X SR envR kr bk ct env sts envJ f' := e ▸ h
theorem lx_use {X : Cx} {Ω P τ : Type} {S : Stor τ} {env : Env} {e : Expr} {env' : P → Env} {f f' : (τ → P → Option Ω) → Option Ω} (h : LX X env e S env' f) (q : f = f') : LX X env e S env' f' := q ▸ h
end Z

set_option Elab.async false
set_option linter.all false
set_option maxRecDepth 100000
namespace Z
open PySem PySem.Spec PyProof.Rows L2

/-! ### a state [n, cells]: a list that holds an int and a list of ints of its own -/
abbrev TSt := Int × List Int
def stT : Stor TSt where
  rel := fun _ _ H fp v t => ∃ p q, v = .ref p ∧ H p = some (.lst [.int t.1, .ref q]) ∧ H q = some (.lst (t.2.map V.int)) ∧ fp = [p, q]
  monoF := fun _ h => h
  frame := fun f h => by
    obtain ⟨p, q, rfl, h1, h2, rfl⟩ := h
    exact ⟨p, q, rfl, by rw [f p (by simp)]; exact h1, by rw [f q (by simp)]; exact h2, rfl⟩
/-- the same without the list: it stands at q -/
def stA (q : Addr) : Stor Int where
  rel := fun _ _ H fp v n => ∃ p, v = .ref p ∧ H p = some (.lst [.int n, .ref q]) ∧ fp = [p]
  monoF := fun _ h => h
  frame := fun f h => by
    obtain ⟨p, rfl, h1, rfl⟩ := h
    exact ⟨p, rfl, by rw [f p (by simp)]; exact h1, rfl⟩
section
variable {C : Ck} {F H : Hp} {σ : List (Option V)} {env : Env}
/-- the list of a state under a name of its own -/
theorem ER.split {i j : Nat} {w : V} {t : TSt} (h : ER C F H σ env) (e : env[i]? = some (.st (some w) TSt stT t)) (ej : env[j]? = some .un) : ∃ p q, σ[i]? = some (some (.ref p)) ∧ H p = some (.lst [.int t.1, .ref q]) ∧
    ER C F H (σ.set j (some (.ref q))) ((env.set i (.st (some w) Int (stA q) t.1)).set j (.st (some (.ref q)) (List Int) (ls (it eI)) t.2)) := by
  obtain ⟨fp, k⟩ := h.sl
  have hi := lt_of_get e
  have hj := lt_of_get ej
  have ne : i ≠ j := fun z => by subst z; rw [e] at ej; cases ej
  obtain ⟨v, e1, ⟨p, q, rfl, h1, h2, hf⟩, e2, k2⟩ := k.ok i _ e
  have e1' : σ[i]? = some (some (.ref p)) := by
    cases z : σ[i]? with
    | none => rw [z] at e1; cases e1
    | some o => rw [z] at e1; exact congrArg some e1
  have own := k.own i hi
  have nd := k.nd i hi
  rw [hf] at own nd k2
  have hpq : p ≠ q := by simpa using nd
  have mem : ∀ a, (a = p ∨ a = q) → a ∈ fp i := fun a m => by rw [hf]; simpa using m
  refine ⟨p, q, e1', h1, h.sB, h.sF, h.gr, h.up, by simp [h.len], fun l => if l = i then [p] else if l = j then [q] else fp l, fun l s el => ?_, fun l hl a ha => ?_, fun l m hl hm a ha hb => ?_, fun l hl => ?_⟩
  · by_cases zj : l = j
    · subst zj
      rw [List.getElem?_set_self (by simpa using hj)] at el
      cases el
      simp only [if_neg (fun z : l = i => ne z.symm), if_pos]
      have hls : l < σ.length := by rw [h.len]; exact hj
      refine ⟨.ref q, by rw [List.getElem?_set_self hls]; rfl, ⟨q, t.2.map V.int, [], rfl, h2, (RepAll.ofInts t.2).zero, rfl⟩, rfl, fun a m => ?_⟩
      simp at m; subst m
      exact k2 a (by simp)
    · rw [List.getElem?_set_ne (fun z => zj z.symm)] at el
      by_cases zi : l = i
      · subst zi
        rw [List.getElem?_set_self hi] at el
        cases el
        simp only [if_pos]
        refine ⟨.ref p, by rw [List.getElem?_set_ne (fun z => zj z.symm)]; exact e1, ⟨p, rfl, h1, rfl⟩, e2, fun a m => ?_⟩
        simp at m; subst m
        exact k2 a (by simp)
      · rw [List.getElem?_set_ne (fun z => zi z.symm)] at el
        simp only [if_neg zi, if_neg zj]
        rw [List.getElem?_set_ne (fun z => zj z.symm)]
        exact k.ok l s el
  · have hl' : l < env.length := by simpa using hl
    by_cases zi : l = i
    · simp only [if_pos zi] at ha
      simp at ha; subst ha
      exact own a (by simp)
    · simp only [if_neg zi] at ha
      by_cases zj : l = j
      · simp only [if_pos zj] at ha
        simp at ha; subst ha
        exact own a (by simp)
      · simp only [if_neg zj] at ha
        exact k.own l hl' a ha
  · have hl' : l < env.length := by simpa using hl
    have hm' : m < env.length := by simpa using hm
    have cl : ∀ l, l < env.length → a ∈ (if l = i then [p] else if l = j then [q] else fp l) → (l = i ∧ a = p) ∨ (l = j ∧ a = q) ∨ (l ≠ i ∧ l ≠ j ∧ a ∈ fp l) := fun l hl ha => by
      by_cases zi : l = i
      · simp only [if_pos zi] at ha; simp at ha; exact .inl ⟨zi, ha⟩
      · simp only [if_neg zi] at ha
        by_cases zj : l = j
        · simp only [if_pos zj] at ha; simp at ha; exact .inr (.inl ⟨zj, ha⟩)
        · simp only [if_neg zj] at ha; exact .inr (.inr ⟨zi, zj, ha⟩)
    rcases cl l hl' ha with ⟨a1, a2⟩ | ⟨a1, a2⟩ | ⟨a1, a2, a3⟩
    · rcases cl m hm' hb with ⟨b1, b2⟩ | ⟨b1, b2⟩ | ⟨b1, b2, b3⟩
      · rw [a1, b1]
      · exact absurd (a2.symm.trans b2) hpq
      · exact absurd (k.sep m i hm' hi a b3 (mem a (.inl a2))) b1
    · rcases cl m hm' hb with ⟨b1, b2⟩ | ⟨b1, b2⟩ | ⟨b1, b2, b3⟩
      · exact absurd (b2.symm.trans a2) hpq
      · rw [a1, b1]
      · exact absurd (k.sep m i hm' hi a b3 (mem a (.inr a2))) b1
    · rcases cl m hm' hb with ⟨b1, b2⟩ | ⟨b1, b2⟩ | ⟨b1, b2, b3⟩
      · exact absurd (k.sep l i hl' hi a a3 (mem a (.inl b2))) a1
      · exact absurd (k.sep l i hl' hi a a3 (mem a (.inr b2))) a1
      · exact k.sep l m hl' hm' a a3 b3
  · have hl' : l < env.length := by simpa using hl
    by_cases zi : l = i
    · simp only [if_pos zi]; simp
    · simp only [if_neg zi]
      by_cases zj : l = j
      · simp only [if_pos zj]; simp
      · simp only [if_neg zj]; exact k.nd l hl'
/-- .. and together again -/
theorem ER.join {i j : Nat} {w : V} {q : Addr} {n : Int} {cs : List Int} (h : ER C F H σ env) (e : env[i]? = some (.st (some w) Int (stA q) n)) (ej : env[j]? = some (.st (some (.ref q)) (List Int) (ls (it eI)) cs)) :
    ER C F H σ ((env.set i (.st (some w) TSt stT (n, cs))).set j .un) := by
  obtain ⟨fp, k⟩ := h.sl
  have hi := lt_of_get e
  have hj := lt_of_get ej
  obtain ⟨v, e1, ⟨p, rfl, h1, hf⟩, e2, k2⟩ := k.ok i _ e
  obtain ⟨u, u1, ⟨q', vs, fps, rfl, h2, ra, hg⟩, u2, u3⟩ := k.ok j _ ej
  have hq : q' = q := by cases u2; rfl
  subst hq
  obtain ⟨rfl, rp⟩ := ra.zero
  have hv := rp.ints
  subst hv
  have ne : i ≠ j := fun z => by
    subst z
    rw [e1] at u1
    have e3 : p = q' := by
      have := Option.some.inj u1
      cases this; rfl
    subst e3
    rw [h1] at h2
    have e4 := Option.some.inj h2
    have e5 : [V.int n, V.ref p] = cs.map V.int := by injection e4
    cases cs with
    | nil => simp at e5
    | cons a cs => cases cs with
      | nil => simp at e5
      | cons b cs => simp at e5
  have ownp := k.own i hi p (by rw [hf]; simp)
  have ownq := k.own j hj q' (by rw [hg]; simp)
  have hpq : p ≠ q' := fun z => by
    subst z
    exact ne (k.sep i j hi hj p (by rw [hf]; simp) (by rw [hg]; simp))
  refine ⟨h.sB, h.sF, h.gr, h.up, by simp [h.len], fun l => if l = i then [p, q'] else if l = j then [] else fp l, fun l s el => ?_, fun l hl a ha => ?_, fun l m hl hm a ha hb => ?_, fun l hl => ?_⟩
  · by_cases zj : l = j
    · subst zj
      rw [List.getElem?_set_self (by simpa using hj)] at el
      cases el
      simp only [if_neg (fun z : l = i => ne z.symm), if_pos]
      rfl
    · rw [List.getElem?_set_ne (fun z => zj z.symm)] at el
      by_cases zi : l = i
      · subst zi
        rw [List.getElem?_set_self hi] at el
        cases el
        simp only [if_pos]
        refine ⟨.ref p, e1, ⟨p, q', rfl, h1, h2, rfl⟩, e2, fun a m => ?_⟩
        simp at m
        rcases m with rfl | rfl
        · exact k2 a (by rw [hf]; simp)
        · exact u3 a (by rw [hg]; simp)
      · rw [List.getElem?_set_ne (fun z => zi z.symm)] at el
        simp only [if_neg zi, if_neg zj]
        exact k.ok l s el
  · have hl' : l < env.length := by simpa using hl
    by_cases zi : l = i
    · simp only [if_pos zi] at ha
      simp at ha
      rcases ha with rfl | rfl
      · exact ownp
      · exact ownq
    · simp only [if_neg zi] at ha
      by_cases zj : l = j
      · simp [if_pos zj] at ha
      · simp only [if_neg zj] at ha
        exact k.own l hl' a ha
  · have hl' : l < env.length := by simpa using hl
    have hm' : m < env.length := by simpa using hm
    have cl : ∀ l, l < env.length → a ∈ (if l = i then [p, q'] else if l = j then [] else fp l) → (l = i ∧ (a ∈ fp i ∨ a ∈ fp j)) ∨ (l ≠ i ∧ l ≠ j ∧ a ∈ fp l) := fun l hl ha => by
      by_cases zi : l = i
      · simp only [if_pos zi] at ha; simp at ha
        refine .inl ⟨zi, ?_⟩
        rcases ha with rfl | rfl
        · exact .inl (by rw [hf]; simp)
        · exact .inr (by rw [hg]; simp)
      · simp only [if_neg zi] at ha
        by_cases zj : l = j
        · simp [if_pos zj] at ha
        · simp only [if_neg zj] at ha; exact .inr ⟨zi, zj, ha⟩
    rcases cl l hl' ha with ⟨a1, a2⟩ | ⟨a1, a2, a3⟩
    · rcases cl m hm' hb with ⟨b1, b2⟩ | ⟨b1, b2, b3⟩
      · rw [a1, b1]
      · rcases a2 with a2 | a2
        · exact absurd (k.sep m i hm' hi a b3 a2) b1
        · exact absurd (k.sep m j hm' hj a b3 a2) b2
    · rcases cl m hm' hb with ⟨b1, b2⟩ | ⟨b1, b2, b3⟩
      · rcases b2 with b2 | b2
        · exact absurd (k.sep l i hl' hi a a3 b2) a1
        · exact absurd (k.sep l j hl' hj a a3 b2) a2
      · exact k.sep l m hl' hm' a a3 b3
  · have hl' : l < env.length := by simpa using hl
    by_cases zi : l = i
    · simp only [if_pos zi]; simp [hpq]
    · simp only [if_neg zi]
      by_cases zj : l = j
      · simp [if_pos zj]
      · simp only [if_neg zj]; exact k.nd l hl'
/-- a new state of a number and a list -/
theorem ER.joinTop {p q : Addr} {n : Int} {cs : List Int} (h : ER C F H (some (.ref p) :: some (.ref q) :: σ) (.st none Int (stA q) n :: .st none (List Int) (ls (it eI)) cs :: env)) : ER C F H (some (.ref p) :: σ) (.st none TSt stT (n, cs) :: env) := by
  obtain ⟨fp, k⟩ := h.sl
  obtain ⟨v, e1, ⟨p', rfl, h1, hf⟩, k2⟩ := k.ok 0 _ rfl
  simp at e1; subst e1
  obtain ⟨u, u1, ⟨q', vs, fps, rfl, h2, ra, hg⟩, u3⟩ := k.ok 1 _ rfl
  simp at u1; subst u1
  obtain ⟨rfl, rp⟩ := ra.zero
  have hv := rp.ints
  subst hv
  have l0 : 0 < (Slot.st none Int (stA q) n :: Slot.st none (List Int) (ls (it eI)) cs :: env).length := by simp
  have l1 : 1 < (Slot.st none Int (stA q) n :: Slot.st none (List Int) (ls (it eI)) cs :: env).length := by simp
  have ownp := k.own 0 l0 p (by rw [hf]; simp)
  have ownq := k.own 1 l1 q (by rw [hg]; simp)
  have hpq : p ≠ q := fun z => by
    subst z
    have := k.sep 0 1 l0 l1 p (by rw [hf]; simp) (by rw [hg]; simp)
    omega
  have hp := h.pop.pop
  refine ⟨hp.sB, hp.sF, hp.gr, hp.up, by simp [hp.len], _, Fps.push (fp := fun l => fp (l + 2)) ⟨fun l s el => ?_, fun l hl a ha => ?_, fun l m hl hm a ha hb => ?_, fun l hl => ?_⟩ (fq := [p, q]) ⟨_, rfl, ⟨p, q, rfl, h1, h2, rfl⟩, fun a m => ?_⟩ (fun a m => ?_) (by simp [hpq]) fun l hl a ha m => ?_⟩
  · have := k.ok (l + 2) s (by simpa using el)
    simpa using this
  · exact k.own (l + 2) (by simpa using hl) a ha
  · have := k.sep (l + 2) (m + 2) (by simpa using hl) (by simpa using hm) a ha hb
    omega
  · exact k.nd (l + 2) (by simpa using hl)
  · simp at m
    rcases m with rfl | rfl
    · exact k2 a (by rw [hf]; simp)
    · exact u3 a (by rw [hg]; simp)
  · simp at m
    rcases m with rfl | rfl
    · exact ownp
    · exact ownq
  · simp at m
    rcases m with rfl | rfl
    · have := k.sep (l + 2) 0 (by simpa using hl) l0 a ha (by rw [hf]; simp); omega
    · have := k.sep (l + 2) 1 (by simpa using hl) l1 a ha (by rw [hg]; simp); omega
end
section
variable {X : Cx} {R I Ω : Type} {SR : Stor R} {envR : I → Env} {kr : R → I → Option Ω} {bk ct : Lp Ω} {env : Env} {nm nm2 : Str} {pos : Pos} {a b e : Expr} {rest : List Stmt} {P P1 P2 : Type} {J : Type} {envJ : J → Env} {e' : P → Env} {e1 : P1 → Env} {e2 : P1 → P2 → Env}
/-- cells = state[1] -/
theorem lb_alias {f : (J → Option Ω) → Option Ω} {w : V} {t : TSt} {p1 p2 cp sp : Pos} {k : Nat} (i j : Nat) (hN : X.N.Nodup) (he : env[i]? = some (.st (some w) TSt stT t)) (hj : env[j]? = some .un)
    (hr : ∀ q, LB X SR envR kr bk ct ((env.set i (.st (some w) Int (stA q) t.1)).set j (.st (some (.ref q)) (List Int) (ls (it eI)) t.2)) rest envJ f)
    (hi : X.N[i]? = some nm := by rfl) (hv_nm : Vis X.env.scope nm := by first | exact Or.inl rfl | exact Or.inr (Or.inl rfl) | exact Or.inr (Or.inr rfl)) (hd : (nm == ("__debug__" : Str)) = false := by decide) (hcd : (nm == ("__classdict__" : Str)) = false := by decide)
    (hi2 : X.N[j]? = some nm2 := by rfl) (hx : Loc X.env.scope nm2 := by first | exact Or.inl rfl | exact Or.inr rfl) (hf : X.fn nm2 = true ∨ X.env.scope.names.lookup nm2 = some .local := by first | exact .inl rfl | exact .inr rfl)
    (hs : swapsWith (.Subscript (.Name nm p1) (.Constant (.int 1) k cp) sp) (some (.Name nm2 p2)) pos.line X.env = pure false := by rfl) :
    LB X SR envR kr bk ct env (.Assign [.Name nm2 p2] (.Subscript (.Name nm p1) (.Constant (.int 1) k cp) sp) pos :: rest) envJ f :=
  fun C F H σs es σ kn ω D hK hl h hk qn qb qc qr => tSs.of X (pss_cons (ps_set hN hi2 hx (pe_ix ix_list (pe_var hi hv_nm hd hcd) pe_int fun _ _ => rfl) hs hf) (pssC X)) (by
    obtain ⟨p, q, s1, h1, h2⟩ := h.split (i := es.length + i) (j := es.length + j) (by rw [at_app _ rfl]; exact he) (by rw [at_app _ rfl]; exact hj)
    rw [at_app _ hl] at s1
    rw [← hl, List.set_append_right _ _ (Nat.le_add_right _ _), Nat.add_sub_cancel_left, hl, List.set_append_right _ _ (Nat.le_add_right _ _), Nat.add_sub_cancel_left, List.set_append_right _ _ (Nat.le_add_right _ _), Nat.add_sub_cancel_left] at h2
    exact ⟨_, s1, p, [.int t.1, .ref q], 1, .ref q, rfl, rfl, SqL.of h1, rfl, hr q C F H σs es _ kn ω D hK hl h2 hk qn qb qc qr⟩)
/-- the list is the state's again -/
theorem lb_join {sts : List Stmt} {f : (J → Option Ω) → Option Ω} {w : V} {q : Addr} {n : Int} {cs : List Int} (i j : Nat) (he : env[i]? = some (.st (some w) Int (stA q) n)) (hj : env[j]? = some (.st (some (.ref q)) (List Int) (ls (it eI)) cs))
    (hr : LB X SR envR kr bk ct ((env.set i (.st (some w) TSt stT (n, cs))).set j .un) sts envJ f) : LB X SR envR kr bk ct env sts envJ f :=
  fun C F H σs es σ kn ω D hK hl h hk qn qb qc qr => by
    have h2 := h.join (i := es.length + i) (j := es.length + j) (by rw [at_app _ rfl]; exact he) (by rw [at_app _ rfl]; exact hj)
    rw [List.set_append_right _ _ (Nat.le_add_right _ _), Nat.add_sub_cancel_left, List.set_append_right _ _ (Nat.le_add_right _ _), Nat.add_sub_cancel_left] at h2
    exact hr C F H σs es σ kn ω D hK hl h2 hk qn qb qc qr
/-- state[0] -/
theorem lx_st0 {w : Option V} {q : Addr} {n : Int} {p1 cp sp : Pos} {k : Nat} (i : Nat) (he : env[i]? = some (.st w Int (stA q) n)) (hi : X.N[i]? = some nm := by rfl) (hv_nm : Vis X.env.scope nm := by first | exact Or.inl rfl | exact Or.inr (Or.inl rfl) | exact Or.inr (Or.inr rfl)) (hd : (nm == ("__debug__" : Str)) = false := by decide) (hcd : (nm == ("__classdict__" : Str)) = false := by decide) :
    LX X env (.Subscript (.Name nm p1) (.Constant (.int 0) k cp) sp) (it eI) (fun _ : Unit => env) (fun (k : Int → Unit → Option Ω) => k n ()) :=
  fun C F H σs es σ k ω Q hK hl h hk q => tE.of X (pe_ix ix_list (pe_var hi hv_nm hd hcd) pe_int fun _ _ => rfl) (by
    obtain ⟨v, fp, e1, p, rfl, h1, _⟩ := h.lookF hl he
    exact ⟨_, e1, p, _, 0, .int n, rfl, rfl, SqL.of h1, rfl, q n () _ F H hk (h.pushSh (.int n))⟩)
/-- state[0] = e -/
theorem lb_st0 {f : (Int → P → Option Ω) → Option Ω} {fr : Int → P → (J → Option Ω) → Option Ω} {w : Option V} {q : Addr} {n : P → Int} {p1 cp sp : Pos} {k : Nat} (i : Nat) (he : LX X env e (it eI) e' f) (h1 : ∀ p, (e' p)[i]? = some (.st w Int (stA q) (n p)))
    (hr : ∀ y p, LB X SR envR kr bk ct ((e' p).set i (.st w Int (stA q) y)) rest envJ (fr y p)) (hi : X.N[i]? = some nm := by rfl) (hv_nm : Vis X.env.scope nm := by first | exact Or.inl rfl | exact Or.inr (Or.inl rfl) | exact Or.inr (Or.inr rfl)) (hd : (nm == ("__debug__" : Str)) = false := by decide) (hcd : (nm == ("__classdict__" : Str)) = false := by decide)
    (ha : ∀ v, assign (.Subscript (.Name nm p1) (.Constant (.int 0) k cp) sp) X.env v = (do
      let ov ← holding [v] (eval (.Name nm p1) X.env)
      let iv ← holding [v, ov] (eval (.Constant (.int 0) k cp) X.env)
      standAt sp
      holding [v, ov, iv] (setItem ov iv v)
      release [v, ov, iv] []) := by intro _; rfl)
    (hs : swapsWithSole [.Subscript (.Name nm p1) (.Constant (.int 0) k cp) sp] e pos.line X.env = pure false := by rfl) (hw : swappedStores [.Subscript (.Name nm p1) (.Constant (.int 0) k cp) sp] e X.env = pure none := by rfl) (ha1 : (assignEach [.Subscript (.Name nm p1) (.Constant (.int 0) k cp) sp] X.env).map (·.2) = [assign (.Subscript (.Name nm p1) (.Constant (.int 0) k cp) sp) X.env] := by rfl) :
    LB X SR envR kr bk ct env (.Assign [.Subscript (.Name nm p1) (.Constant (.int 0) k cp) sp] e pos :: rest) envJ (fun kn => f fun y p => fr y p kn) :=
  fun C F H σs es σ kn ω D hK hl h hk qn qb qc qr => tSs.of X (pss_cons (ps_asg (peC X) (pg_sub (pe_var hi hv_nm hd hcd) pe_int set_list ha) hs hw ha1) (pssC X)) (he C F H σs es σ _ ω _ hK hl h hk fun y p v F' H' hk' h' => by
    have hvy : v = .int y := by
      obtain ⟨v', fp, e1, r⟩ := h'.look (i := 0) rfl
      simp at e1; subst e1
      obtain ⟨_, r⟩ := r
      cases r; rfl
    subst hvy
    obtain ⟨l, fp, e1, r1, nd, ow, fin⟩ := (ER.pop h').mut (i := es.length + i) (by rw [at_app _ rfl]; exact h1 p)
    rw [at_app _ hl] at e1
    obtain ⟨p0, rfl, h2, rfl⟩ := r1
    refine ⟨_, e1, p0, _, 0, 0, rfl, rfl, h2, rfl, ?_⟩
    have fin' := fin Int (stA q) y (upd H' p0 (.lst [.int y, .ref q])) [p0] (fun a na _ => upd_ne fun z => na (by rw [z]; simp)) (fun a m => ?_) ⟨p0, rfl, upd_same, rfl⟩ (by simp) (fun a m => ?_)
    · rw [List.set_append_right _ _ (Nat.le_add_right _ _), Nat.add_sub_cancel_left] at fin'
      exact hr y p C F' _ σs es σ kn ω D hK hl fin' hk' qn qb qc qr
    · by_cases z : a = p0
      · subst z; rw [upd_same]; exact fun z => by cases z
      · rw [upd_ne z]; exact m
    · simp at m; subst m
      exact ⟨by rw [upd_same]; exact (fun z => by cases z), .inl (by simp)⟩)
/-- [n, cells] -/
theorem lx_st {fa : (Int → P1 → Option Ω) → Option Ω} {fb : P1 → (List Int → P2 → Option Ω) → Option Ω} (ha : LX X env a (it eI) e1 fa) (hb : ∀ p, LX X (e1 p) b (ls (it eI)) (e2 p) (fb p))
    (hs : starEach [a, b] X.env = (false, eval a X.env) :: starEach [b] X.env := by rfl) (hs2 : starEach [b] X.env = (false, eval b X.env) :: starEach [] X.env := by rfl) :
    LX X env (.List [a, b] pos) stT (fun p : P1 × P2 => e2 p.1 p.2) (fun k => fa fun x p1 => fb p1 fun y p2 => k (x, y) (p1, p2)) :=
  fun C F H σs es σ k ω Q hK hl h hk q => tE.of X (pe_lst (pa_cons (peC X) (pa_cons (peC X) pa_nil hs2) hs)) (ha C F H σs es σ _ ω _ hK hl h hk fun x p1 v F1 H1 hk1 h1 =>
    hb p1 C F1 H1 (some v :: σs) (.st none Int (it eI) x :: es) σ _ ω _ hK (by simp [hl]) h1 hk1 fun y p2 u F2 H2 hk2 h2 => by
      have hvx : v = .int x := by
        obtain ⟨v', fp, e1, r⟩ := h2.look (i := 1) rfl
        simp at e1; subst e1
        obtain ⟨_, r⟩ := r
        cases r; rfl
      subst hvx
      obtain ⟨u', fp, e1, q0, vs, fps, rfl, hq, _, _⟩ := h2.look (i := 0) rfl
      simp at e1; subst e1
      refine ⟨by show 2 ≤ sizeLine; rw [SZ_eq]; decide, fun t nt => ?_⟩
      have z2 : ER C F2 H2 ([some (.ref q0)] ++ some (.int x) :: (σs ++ σ)) ([.st none (List Int) (ls (it eI)) y] ++ .st none Int (it eI) x :: (es ++ e2 p1 p2)) := h2
      have h3 : ER C F2 H2 (some (.ref q0) :: (σs ++ σ)) (.st none (List Int) (ls (it eI)) y :: (es ++ e2 p1 p2)) := ER.pop (ER.rot z2 rfl)
      have h4 := h3.newOw (S := stA q0) (x := x) (v := .ref t) nt ⟨t, rfl, upd_same, rfl⟩
      exact q (x, y) (p1, p2) (.ref t) F2 _ hk2 h4.joinTop)
/-- x, y = a, b -/
theorem lb_par {τ1 τ2 : Type} {S1 : Stor τ1} {S2 : Stor τ2} {f : ((τ1 × τ2 × Unit) → P → Option Ω) → Option Ω} {fr : τ1 → τ2 → P → (J → Option Ω) → Option Ω} {px py pt : Pos} {kt k2 : Nat} {pt2 : Pos} (i j : Nat) (hN : X.N.Nodup) (hc : X.calm = true) (ha : LA X env [a, b] (fun p : τ1 × τ2 × Unit => [.st none τ1 S1 p.1, .st none τ2 S2 p.2.1]) e' f)
    (hr : ∀ x y p, LB X SR envR kr bk ct (((e' p).set i (.st none τ1 S1 x)).set j (.st none τ2 S2 y)) rest envJ (fr x y p))
    (hi : X.N[i]? = some nm := by rfl) (hj : X.N[j]? = some nm2 := by rfl) (hij : i ≠ j := by decide) (hx : X.env.scope.names.lookup nm = some .local := by rfl) (hy : X.env.scope.names.lookup nm2 = some .local := by rfl)
    (hli : ∀ p, i < (e' p).length := by exact (fun _ => Nat.lt_of_sub_eq_succ rfl)) (hlj : ∀ p, j < (e' p).length := by exact (fun _ => Nat.lt_of_sub_eq_succ rfl))
    (hw : swappedStores [.Tuple [.Name nm px, .Name nm2 py] kt pt] (.Tuple [a, b] k2 pt2) X.env = pure (some [nm, nm2]) := by rfl)
    (hs : swapsWithSole [.Tuple [.Name nm px, .Name nm2 py] kt pt] (.Tuple [a, b] k2 pt2) pos.line X.env = pure false := by rfl) :
    LB X SR envR kr bk ct env (.Assign [.Tuple [.Name nm px, .Name nm2 py] kt pt] (.Tuple [a, b] k2 pt2) pos :: rest) envJ (fun kn => f fun r p => fr r.1 r.2.1 p kn) :=
  fun C F H σs es σ kn ω D hK hl h hk qn qb qc qr => tSs.of X (pss_cons (ps_par hc hN hi hj hij hx hy (paC X) hw hs) (pssC X)) (ha C F H σs es σ _ ω _ hK hl h hk fun r p vs F' H' hk' hv h' => by
    match vs, hv with
    | [v, u], _ =>
      refine ⟨v, u, rfl, ?_⟩
      have h2 := ER.asg (σs := some u :: σs) (es := .st none τ2 S2 r.2.1 :: es) (σ := σ) (env := e' p) h' (by simp [hl]) (hli p)
      have h3 := ER.asg (σs := σs) (es := es) (σ := σ.set i (some v)) h2 hl (by simpa using hlj p)
      exact hr r.1 r.2.1 p C F' H' σs es _ kn ω D hK hl h3 hk' qn qb qc qr)
/-- from a law's call to its def's promise -/
theorem law_sp {K : Fg} {H : Hp} {a : Addr} {ns : List Int} {m : List Int × Unit → Option Bool} {Q : VK} {E : XK} (hS : SqL K H a (ns.map V.int)) (hm : m (ns, ()) = some true) (q : ∀ H', Q (.bl true) H') :
    spP K (fun a : List Int × Unit => [.st none (List Int) scr a.1]) (it eB) m [.ref a] H Q E := by
  refine ⟨H, H, (ns, ()), true, hm, rfl, ⟨fun _ _ e => e, fun _ _ e => e, fun _ m => .inl m, fun _ m => m, rfl, fun _ => [], fun i s e => ?_, fun i hi a ha => (nomatch ha), fun i j _ _ a ha => (nomatch ha), fun i _ => List.nodup_nil⟩, fun F' H' v h => ?_⟩
  · match i, e with
    | 0, e =>
      cases e
      exact ⟨_, rfl, ⟨rfl, a, rfl, hS⟩, fun _ m => nomatch m⟩
    | i + 1, e => simp at e
  · have hv : v = .bl true := by
      obtain ⟨v', fp, e1, r⟩ := h.look (i := 0) rfl
      simp at e1; subst e1
      obtain ⟨_, r⟩ := r
      cases r; rfl
    rw [hv]; exact q H'
end
end Z

set_option Elab.async false
set_option linter.all false
set_option maxRecDepth 100000
namespace Z
open PySem PySem.Spec PyProof.Rows L2

/-! ### the mirrors in plain words -/
section
variable {α β S Ω : Type}
theorem ixN_nat {n i : Nat} (h : i < n) : ixN n (i : Int) = some i := by
  unfold ixN
  rw [if_pos (by omega), if_pos (by omega), Int.toNat_natCast]
theorem atI_nat {xs : List α} {i : Nat} (h : i < xs.length) : atI xs (i : Int) = some xs[i] := by
  unfold atI
  rw [ixN_nat h]
  exact List.getElem?_eq_getElem h
theorem atI_pos {xs : List α} {i : Int} (h0 : 0 ≤ i) (h1 : i < xs.length) : ∃ (k : Nat) (h : k < xs.length), i = k ∧ atI xs i = some xs[k] :=
  by
  obtain ⟨k, rfl⟩ := Int.eq_ofNat_of_zero_le h0
  exact ⟨k, by omega, rfl, atI_nat (by omega)⟩
theorem rangeL_nat (n : Nat) : rangeL 0 (n : Int) = (List.range n).map fun i : Nat => ((i : Nat) : Int) := by
  unfold rangeL
  simp
theorem mem_rangeL {n : Nat} {x : Int} : x ∈ rangeL 0 (n : Int) ↔ ∃ i : Nat, i < n ∧ x = i := by
  rw [rangeL_nat]
  simp only [List.mem_map, List.mem_range]
  exact ⟨fun ⟨i, h, e⟩ => ⟨i, h, e.symm⟩, fun ⟨i, h, e⟩ => ⟨i, h, e.symm⟩⟩
theorem rgOk_nat {n : Nat} (h : n < 2 ^ 62) : rgOk 0 (n : Int) = true := by
  unfold rgOk
  have h2 : (n : Int) < 2 ^ 62 := by exact_mod_cast h
  exact decide_eq_true ⟨by decide, by decide, by omega, h2⟩
theorem mulOk_l {i j : Int} (h0 : 0 ≤ i) (h : i < 2 ^ 64) : mulOk i j = true := decide_eq_true (.inl ⟨by omega, h⟩)
theorem mulOk_r {i j : Int} (h0 : 0 ≤ j) (h : j < 2 ^ 64) : mulOk i j = true := decide_eq_true (.inr ⟨by omega, h⟩)
theorem divOk_pos {j : Int} (h0 : 0 < j) (h : j < 1073741824) : divOk j = true := decide_eq_true ⟨by omega, by omega⟩
theorem modOk_pos {j : Int} (h0 : 0 < j) : modOk j = true := decide_eq_true (by omega)
theorem ck_wp {b : Bool} {k : Option Ω} {ω : Ω} (h : b = true) (hk : k = some ω) : ck b k = some ω := by rw [h]; exact hk
theorem bind_wp {o : Option α} {k : α → Option Ω} {ω : Ω} {a : α} (h : o = some a) (hk : k a = some ω) : o.bind k = some ω := by rw [h]; exact hk
/-- a for, by an invariant over the turns -/
theorem forO_wpN {ω : Ω} (Inv : Nat → S → Prop) {b : α → S → (S → Option Ω) → Option Ω} {k : S → Option Ω} : ∀ (xs : List α) (n : Nat) (s : S), Inv n s →
    (∀ i s x, xs[i]? = some x → Inv (n + i) s → ∀ kc : S → Option Ω, (∀ s', Inv (n + i + 1) s' → kc s' = some ω) → b x s kc = some ω) → (∀ s, Inv (n + xs.length) s → k s = some ω) → forO xs s b k = some ω
  | [], n, s, h0, _, he => he s h0
  | x :: xs, n, s, h0, hs, he => hs 0 s x rfl h0 _ fun s' h' => forO_wpN Inv xs (n + 1) s' h'
      (fun i s y e h kc hk => hs (i + 1) s y e (by rw [show n + (i + 1) = n + 1 + i by omega]; exact h) kc fun s' h' => hk s' (by rw [show n + 1 + i + 1 = n + (i + 1) + 1 by omega]; exact h'))
      fun s h => he s (by rw [show n + (x :: xs).length = n + 1 + xs.length by simp; omega]; exact h)
/-- .. by one that stays -/
theorem forO_wp {ω : Ω} (Inv : S → Prop) {b : α → S → (S → Option Ω) → Option Ω} {k : S → Option Ω} {xs : List α} {s : S} (h0 : Inv s)
    (hs : ∀ s x, x ∈ xs → Inv s → ∀ kc : S → Option Ω, (∀ s', Inv s' → kc s' = some ω) → b x s kc = some ω) (he : ∀ s, Inv s → k s = some ω) : forO xs s b k = some ω :=
  forO_wpN (fun _ => Inv) xs 0 s h0 (fun i s x e h kc hk => hs s x (List.mem_of_getElem? e) h kc hk) he
theorem forO_fold (g : S → α → S) {b : α → S → (S → Option Ω) → Option Ω} {k : S → Option Ω} : ∀ (xs : List α) (s : S), (∀ x ∈ xs, ∀ s kc, b x s kc = kc (g s x)) → forO xs s b k = k (xs.foldl g s)
  | [], s, _ => rfl
  | x :: xs, s, h => (h x (List.mem_cons_self ..) s _).trans (forO_fold g xs (g s x) fun y m => h y (List.mem_cons_of_mem _ m))
/-- two walks that go alike: both end with one answer, or both go on -/
theorem forO_two {Pr : Ω → Prop} {b1 b2 : α → Unit → (Unit → Option Ω) → Option Ω} : ∀ (xs : List α), (∀ x ∈ xs, (∃ r, Pr r ∧ ∀ k1 k2, b1 x () k1 = some r ∧ b2 x () k2 = some r) ∨ (∀ k1 k2, b1 x () k1 = k1 () ∧ b2 x () k2 = k2 ())) →
    (∃ r, Pr r ∧ ∀ k1 k2, forO xs () b1 k1 = some r ∧ forO xs () b2 k2 = some r) ∨ (∀ k1 k2, forO xs () b1 k1 = k1 () ∧ forO xs () b2 k2 = k2 ())
  | [], _ => .inr fun _ _ => ⟨rfl, rfl⟩
  | x :: xs, h => by
    rcases h x (List.mem_cons_self ..) with ⟨r, hr, h1⟩ | h1
    · exact .inl ⟨r, hr, fun k1 k2 => h1 _ _⟩
    · rcases forO_two xs (fun y m => h y (List.mem_cons_of_mem _ m)) with ⟨r, hr, h2⟩ | h2
      · exact .inl ⟨r, hr, fun k1 k2 => ⟨(h1 (fun _ => forO xs () b1 k1) (fun _ => forO xs () b2 k2)).1.trans (h2 k1 k2).1, (h1 (fun _ => forO xs () b1 k1) (fun _ => forO xs () b2 k2)).2.trans (h2 k1 k2).2⟩⟩
      · exact .inr fun k1 k2 => ⟨(h1 (fun _ => forO xs () b1 k1) (fun _ => forO xs () b2 k2)).1.trans (h2 k1 k2).1, (h1 (fun _ => forO xs () b1 k1) (fun _ => forO xs () b2 k2)).2.trans (h2 k1 k2).2⟩
/-- a walk that always goes on -/
theorem forO_skip {b : α → Unit → (Unit → Option Ω) → Option Ω} {k : Unit → Option Ω} : ∀ (xs : List α), (∀ x ∈ xs, ∀ kc, b x () kc = kc ()) → forO xs () b k = k ()
  | [], _ => rfl
  | x :: xs, h => (h x (List.mem_cons_self ..) _).trans (forO_skip xs fun y m => h y (List.mem_cons_of_mem _ m))
/-- a comprehension, by an invariant -/
theorem compO_wp {ω : Ω} (Inv : S → Prop) (Pe : β → Prop) {b : α → S → (Option β → S → Option Ω) → Option Ω} {k : List β → S → Option Ω} : ∀ (xs : List α) (s : S) (acc : List β), Inv s → (∀ y ∈ acc, Pe y) → acc.length + xs.length ≤ SZ →
    (∀ s x, x ∈ xs → Inv s → ∀ kc : Option β → S → Option Ω, (∀ y s', Pe y → Inv s' → kc (some y) s' = some ω) → b x s kc = some ω) → (∀ ys s, ys.length = acc.length + xs.length → (∀ y ∈ ys, Pe y) → Inv s → k ys s = some ω) → compO xs s b acc k = some ω
  | [], s, acc, h0, ha, _, _, he => he acc s rfl ha h0
  | x :: xs, s, acc, h0, ha, hl, hs, he => hs s x (List.mem_cons_self ..) h0 _ fun y s' hy h' => by
    have hl' : acc.length + 1 + xs.length ≤ SZ := by simpa [Nat.add_assoc, Nat.add_comm 1] using hl
    refine ck_wp (decide_eq_true (by omega)) (compO_wp Inv Pe xs s' (acc ++ [y]) h' (fun z m => ?_) (by simpa using hl') (fun s z m => hs s z (List.mem_cons_of_mem _ m)) fun ys s e => he ys s (by simp at e ⊢; omega))
    rcases List.mem_append.1 m with m | m
    · exact ha z m
    · simp at m; subst m; exact hy
/-- .. that maps -/
theorem compO_map (g : α → β) {b : α → S → (Option β → S → Option Ω) → Option Ω} {k : List β → S → Option Ω} (s : S) : ∀ (xs : List α) (acc : List β), acc.length + xs.length ≤ SZ → (∀ x ∈ xs, ∀ kc, b x s kc = kc (some (g x)) s) → compO xs s b acc k = k (acc ++ xs.map g) s
  | [], acc, _, _ => by simp [compO]
  | x :: xs, acc, hl, h => by
    have hl' : acc.length + 1 + xs.length ≤ SZ := by simpa [Nat.add_assoc, Nat.add_comm 1] using hl
    refine (h x (List.mem_cons_self ..) _).trans ?_
    show ck _ _ = _
    rw [decide_eq_true (show acc.length < SZ by omega), ck_true, compO_map g s xs (acc ++ [g x]) (by simpa using hl') fun y m => h y (List.mem_cons_of_mem _ m)]
    simp
/-- .. that sifts and maps -/
theorem compO_filterMap (g : α → Option β) {b : α → S → (Option β → S → Option Ω) → Option Ω} {k : List β → S → Option Ω} (s : S) : ∀ (xs : List α) (acc : List β), acc.length + xs.length ≤ SZ → (∀ x ∈ xs, ∀ kc, b x s kc = kc (g x) s) → compO xs s b acc k = k (acc ++ xs.filterMap g) s
  | [], acc, _, _ => by simp [compO]
  | x :: xs, acc, hl, h => by
    have hl' : acc.length + 1 + xs.length ≤ SZ := by simpa [Nat.add_assoc, Nat.add_comm 1] using hl
    refine (h x (List.mem_cons_self ..) _).trans ?_
    cases e : g x with
    | some y =>
      show ck _ _ = _
      rw [decide_eq_true (show acc.length < SZ by omega), ck_true, compO_filterMap g s xs (acc ++ [y]) (by simpa using hl') fun y m => h y (List.mem_cons_of_mem _ m)]
      simp [e]
    | none =>
      show compO xs s b acc k = _
      rw [compO_filterMap g s xs acc (by omega) fun y m => h y (List.mem_cons_of_mem _ m)]
      simp [e]
end
/-! ### the drawing of the laws -/
def takeM (t0 : TSt) (a_most : Int) : Option (Int × TSt) :=
  ck (modOk (List.length t0.2 : Int)) (let v_at : Int := (Int.fmod t0.1 (List.length t0.2 : Int))
  (atI t0.2 v_at).bind fun y =>
  let v_cell : Int := y
  if (decide ((1000000000000000000 : Int) ≤ v_cell)) = true then (
    ck (divOk a_most) ((ixN (List.length t0.2) v_at).bind fun n =>
    let z : (List Int) := List.set t0.2 n (Int.fdiv v_cell a_most)
    ck (modOk a_most) (some ((Int.fmod v_cell a_most), (t0.1, z)))))
  else (
    let v_n : Int := (t0.1 + (1 : Int))
    ck (mulOk v_cell (48271 : Int)) (ck (mulOk v_n (69621 : Int)) (ck (modOk (2147483647 : Int)) (let v_mixed : Int := (Int.fmod ((v_cell * (48271 : Int)) + (v_n * (69621 : Int))) (2147483647 : Int))
    ck (mulOk v_mixed (16807 : Int)) (ck (mulOk v_n (7919 : Int)) (ck (modOk (1000000007 : Int)) (let v_mixed2 : Int := (Int.fmod ((v_mixed * (16807 : Int)) + (v_n * (7919 : Int))) (1000000007 : Int))
    ck (divOk (7 : Int)) (ck (modOk a_most) (some ((Int.fmod (Int.fdiv v_mixed2 (7 : Int)) a_most), (v_n, t0.2))))))))))))
theorem take_ok {t : TSt} {m : Int} (ht : t.2 ≠ []) (h0 : 0 < m) (h1 : m < 1073741824) : ∃ v t', takeM t m = some (v, t') ∧ 0 ≤ v ∧ v < m ∧ t'.2 ≠ [] := by
  have hl : 0 < t.2.length := List.length_pos_iff.2 ht
  have hl' : (0 : Int) < (t.2.length : Int) := by omega
  have a0 := Int.fmod_nonneg_of_pos t.1 hl'
  have a1 := Int.fmod_lt_of_pos t.1 hl'
  obtain ⟨k, hk, e, ea⟩ := atI_pos (xs := t.2) a0 a1
  unfold takeM
  rw [modOk_pos hl', ck_true]
  show ∃ v t', (atI t.2 (Int.fmod t.1 t.2.length)).bind _ = _ ∧ _
  rw [ea]
  show ∃ v t', (if (decide ((1000000000000000000 : Int) ≤ t.2[k])) = true then _ else _) = _ ∧ _
  by_cases c : (1000000000000000000 : Int) ≤ t.2[k]
  · rw [if_pos (decide_eq_true c), divOk_pos h0 h1, ck_true, e, ixN_nat hk]
    show ∃ v t', ck (modOk m) _ = _ ∧ _
    rw [modOk_pos h0, ck_true]
    refine ⟨_, _, rfl, Int.fmod_nonneg_of_pos _ h0, Int.fmod_lt_of_pos _ h0, fun z => ?_⟩
    exact ht (by simpa using z)
  · rw [if_neg (by simpa using c)]
    show ∃ v t', ck (mulOk _ 48271) (ck (mulOk _ 69621) (ck (modOk 2147483647) (ck (mulOk _ 16807) (ck (mulOk _ 7919) (ck (modOk 1000000007) (ck (divOk 7) (ck (modOk m) (some _)))))))) = _ ∧ _
    rw [mulOk_r (by decide) (by decide), mulOk_r (by decide) (by decide), mulOk_r (by decide) (by decide), mulOk_r (by decide) (by decide), modOk_pos (by decide), modOk_pos (by decide), divOk_pos (by decide) (by decide), modOk_pos h0]
    simp only [ck_true]
    exact ⟨_, _, rfl, Int.fmod_nonneg_of_pos _ h0, Int.fmod_lt_of_pos _ h0, ht⟩
theorem take_wp {Ω : Type} {t : TSt} {m : Int} {k : Int × TSt → Option Ω} {ω : Ω} (ht : t.2 ≠ []) (h0 : 0 < m) (h1 : m < 1073741824) (hk : ∀ v t', 0 ≤ v → v < m → t'.2 ≠ [] → k (v, t') = some ω) : (takeM t m).bind k = some ω := by
  obtain ⟨v, t', e, a, b, c⟩ := take_ok ht h0 h1
  exact bind_wp e (hk v t' a b c)
def stateM (a_script : List Int) : Option TSt :=
  compO (cutL a_script none (some (63 : Int))) () (fun x (t : Unit) kc => (
    kc (some (if x < 0 then -x else x)) ())) [] fun (ys : List Int) (t : Unit) => (
    let v_cells : (List Int) := ys
    let k := fun j : (List Int) => (
      some ((0 : Int), j))
    if (decide ((List.length v_cells : Int) = (0 : Int))) = true then (
      let v_cells2 : (List Int) := [(0 : Int)]
      k v_cells2)
    else (
      k v_cells))
theorem cutL_len {α : Type} (xs : List α) (a b : Option Int) : (cutL xs a b).length ≤ xs.length := by
  unfold cutL
  simp; omega
theorem state_ok {ns : List Int} (h : ns.length ≤ 63) : ∃ t, stateM ns = some t ∧ t.2 ≠ [] := by
  unfold stateM
  rw [compO_map (fun x : Int => if x < 0 then -x else x) () _ [] (by have := cutL_len ns none (some 63); show _ ≤ 16777216; simp; omega) (fun _ _ _ => rfl)]
  show ∃ t, (if decide _ = true then _ else _) = some t ∧ _
  split
  · exact ⟨_, rfl, by simp⟩
  · rename_i c
    exact ⟨_, rfl, fun z => c (decide_eq_true (by rw [show List.length _ = 0 from congrArg List.length z]; rfl))⟩
end Z

set_option Elab.async false
set_option linter.all false
set_option maxRecDepth 100000
namespace Z
open PySem PySem.Spec PyProof.Rows L2

/-! ### a list with parts of their own kinds, that is changed part by part -/
def lsR {τ : Type} (E : Enc τ) : Stor τ where
  rel := fun K F H fp v t => ∃ p vs ds, v = .ref p ∧ H p = some (.lst vs) ∧ E.enc t = .tuple ds ∧ RepAll K F vs ds ∧ fp = [p]
  monoF := fun s h => by
    obtain ⟨p, vs, ds, rfl, hp, e, r, rfl⟩ := h
    exact ⟨p, vs, ds, rfl, hp, e, r.mono s, rfl⟩
  frame := fun f h => by
    obtain ⟨p, vs, ds, rfl, hp, e, r, rfl⟩ := h
    exact ⟨p, vs, ds, rfl, by rw [f p List.mem_cons_self]; exact hp, e, r, rfl⟩
/-- another value at the n-th part -/
structure PartS (E : Enc τ) (n : Int) (E1 : Enc α) (u : τ → α → τ) : Prop where
  is : ∀ x y, ∃ ds j, E.enc x = .tuple ds ∧ ixN ds.length n = some j ∧ E.enc (u x y) = .tuple (ds.set j (E1.enc y))
theorem parts2_0 {A : Enc α} {B : Enc β} : PartS (eT2 A B) 0 A (fun x y => (y, x.2)) := ⟨fun _ _ => ⟨_, _, rfl, rfl, rfl⟩⟩
theorem parts2_1 {A : Enc α} {B : Enc β} : PartS (eT2 A B) 1 B (fun x y => (x.1, y)) := ⟨fun _ _ => ⟨_, _, rfl, rfl, rfl⟩⟩
theorem parts3_0 {γ : Type} {A : Enc α} {B : Enc β} {D : Enc γ} : PartS (eT3 A B D) 0 A (fun x y => (y, x.2)) := ⟨fun _ _ => ⟨_, _, rfl, rfl, rfl⟩⟩
theorem parts3_1 {γ : Type} {A : Enc α} {B : Enc β} {D : Enc γ} : PartS (eT3 A B D) 1 B (fun x y => (x.1, y, x.2.2)) := ⟨fun _ _ => ⟨_, _, rfl, rfl, rfl⟩⟩
theorem parts3_2 {γ : Type} {A : Enc α} {B : Enc β} {D : Enc γ} : PartS (eT3 A B D) 2 D (fun x y => (x.1, x.2.1, y)) := ⟨fun _ _ => ⟨_, _, rfl, rfl, rfl⟩⟩
theorem parts4_0 {γ δ : Type} {A : Enc α} {B : Enc β} {D : Enc γ} {D' : Enc δ} : PartS (eT4 A B D D') 0 A (fun x y => (y, x.2)) := ⟨fun _ _ => ⟨_, _, rfl, rfl, rfl⟩⟩
theorem parts4_1 {γ δ : Type} {A : Enc α} {B : Enc β} {D : Enc γ} {D' : Enc δ} : PartS (eT4 A B D D') 1 B (fun x y => (x.1, y, x.2.2)) := ⟨fun _ _ => ⟨_, _, rfl, rfl, rfl⟩⟩
theorem parts4_2 {γ δ : Type} {A : Enc α} {B : Enc β} {D : Enc γ} {D' : Enc δ} : PartS (eT4 A B D D') 2 D (fun x y => (x.1, x.2.1, y, x.2.2.2)) := ⟨fun _ _ => ⟨_, _, rfl, rfl, rfl⟩⟩
theorem parts4_3 {γ δ : Type} {A : Enc α} {B : Enc β} {D : Enc γ} {D' : Enc δ} : PartS (eT4 A B D D') 3 D' (fun x y => (x.1, x.2.1, x.2.2.1, y)) := ⟨fun _ _ => ⟨_, _, rfl, rfl, rfl⟩⟩
section
variable {X : Cx} {R I Ω : Type} {SR : Stor R} {envR : I → Env} {kr : R → I → Option Ω} {bk ct : Lp Ω} {env : Env} {nm : Str} {pos : Pos} {a b e : Expr} {xs : List Expr} {rest : List Stmt} {P A : Type} {J : Type} {envJ : J → Env} {e' : P → Env} {τ α : Type} {E : Enc τ} {E1 : Enc α}
/-- [a, 0, ..] -/
theorem lx_row {sl : A → Env} {fs : (A → P → Option Ω) → Option Ω} (h : LA X env xs sl e' fs) (E : Enc τ) (g : A → τ) (ds : A → List PyData) (hd : ∀ a, ShL (sl a) (ds a)) (he : ∀ a, E.enc (g a) = .tuple (ds a)) (hz : xs.length ≤ 1000 := by decide) (hz2 : ∀ a, (sl a).length = xs.length := by intro _; rfl) :
    LX X env (.List xs pos) (lsR E) e' (fun k => fs fun a p => k (g a) p) :=
  fun C F H σs es σ k ω Q hK hl hr hk q => tE.of X (pe_lst (paC X)) (h C F H σs es σ _ ω _ hK hl hr hk fun a p vs F' H' hk' hlv h' => by
    refine ⟨?_, fun t nt => ?_⟩
    · have := hz2 a; simp at hlv; exact Nat.le_of_lt (small1000 (by omega))
    · have r := (hd a).rep hlv h'
      exact q (g a) p (.ref t) F' _ hk' ((h'.popN hlv).newOw nt ⟨t, vs, ds a, rfl, upd_same, he a, r, rfl⟩))
/-- row[n] -/
theorem lx_rowAt {w : Option V} {t : τ} {n : Int} {g : τ → α} {p1 cp sp : Pos} {k : Nat} (i : Nat) (hp : Part E n E1 g) (he : env[i]? = some (.st w τ (lsR E) t)) (hi : X.N[i]? = some nm := by rfl) (hv_nm : Vis X.env.scope nm := by first | exact Or.inl rfl | exact Or.inr (Or.inl rfl) | exact Or.inr (Or.inr rfl)) (hd : (nm == ("__debug__" : Str)) = false := by decide) (hcd : (nm == ("__classdict__" : Str)) = false := by decide) :
    LX X env (.Subscript (.Name nm p1) (.Constant (.int n) k cp) sp) (it E1) (fun _ : Unit => env) (fun (k : α → Unit → Option Ω) => k (g t) ()) :=
  fun C F H σs es σ k ω Q hK hl h hk q => tE.of X (pe_ix ix_list (pe_var hi hv_nm hd hcd) pe_int fun _ _ => rfl) (by
    obtain ⟨v, fp, e1, p, vs, ds, rfl, h1, h2, h3, _⟩ := h.lookF hl he
    obtain ⟨ds', q1, q2⟩ := hp.is t
    rw [h2] at q1
    cases q1
    obtain ⟨u, hu, ru⟩ := h3.atD q2
    exact ⟨_, e1, p, vs, n, u, rfl, rfl, SqL.of h1, hu, q (g t) () u F H hk (h.pushSh ru)⟩)
/-- row[n] = e -/
theorem lb_setrow {f : (α → P → Option Ω) → Option Ω} {fr : α → P → (J → Option Ω) → Option Ω} {w : Option V} {t : P → τ} {n : Int} {u : τ → α → τ} {p1 cp sp : Pos} {k : Nat} (i : Nat) (hp : PartS E n E1 u) (he : LX X env e (it E1) e' f) (h1 : ∀ p, (e' p)[i]? = some (.st w τ (lsR E) (t p)))
    (hr : ∀ y p, LB X SR envR kr bk ct ((e' p).set i (.st w τ (lsR E) (u (t p) y))) rest envJ (fr y p)) (hi : X.N[i]? = some nm := by rfl) (hv_nm : Vis X.env.scope nm := by first | exact Or.inl rfl | exact Or.inr (Or.inl rfl) | exact Or.inr (Or.inr rfl)) (hd : (nm == ("__debug__" : Str)) = false := by decide) (hcd : (nm == ("__classdict__" : Str)) = false := by decide)
    (ha : ∀ v, assign (.Subscript (.Name nm p1) (.Constant (.int n) k cp) sp) X.env v = (do
      let ov ← holding [v] (eval (.Name nm p1) X.env)
      let iv ← holding [v, ov] (eval (.Constant (.int n) k cp) X.env)
      standAt sp
      holding [v, ov, iv] (setItem ov iv v)
      release [v, ov, iv] []) := by intro _; rfl)
    (hs : swapsWithSole [.Subscript (.Name nm p1) (.Constant (.int n) k cp) sp] e pos.line X.env = pure false := by rfl) (hw : swappedStores [.Subscript (.Name nm p1) (.Constant (.int n) k cp) sp] e X.env = pure none := by rfl) (ha1 : (assignEach [.Subscript (.Name nm p1) (.Constant (.int n) k cp) sp] X.env).map (·.2) = [assign (.Subscript (.Name nm p1) (.Constant (.int n) k cp) sp) X.env] := by rfl) :
    LB X SR envR kr bk ct env (.Assign [.Subscript (.Name nm p1) (.Constant (.int n) k cp) sp] e pos :: rest) envJ (fun kn => f fun y p => fr y p kn) :=
  fun C F H σs es σ kn ω D hK hl h hk qn qb qc qr => tSs.of X (pss_cons (ps_asg (peC X) (pg_sub (pe_var hi hv_nm hd hcd) pe_int set_list ha) hs hw ha1) (pssC X)) (he C F H σs es σ _ ω _ hK hl h hk fun y p v F' H' hk' h' => by
    have hvy : Rep C.K F' v (E1.enc y) := by
      obtain ⟨v', fp, e1, r⟩ := h'.look (i := 0) rfl
      simp at e1; subst e1
      exact r.2
    obtain ⟨l, fp, e1, r1, nd, ow, fin⟩ := (ER.pop h').mut (i := es.length + i) (by rw [at_app _ rfl]; exact h1 p)
    rw [at_app _ hl] at e1
    obtain ⟨p0, vs, ds, rfl, h2, h3, h4, rfl⟩ := r1
    obtain ⟨ds', j, q1, q2, q3⟩ := hp.is (t p) y
    rw [h3] at q1
    cases q1
    have hj : ixN vs.length n = some j := by rw [h4.length]; exact q2
    refine ⟨_, e1, p0, vs, n, j, rfl, rfl, h2, hj, ?_⟩
    have fin' := fin τ (lsR E) (u (t p) y) (upd H' p0 (.lst (vs.set j v))) [p0] (fun a na _ => upd_ne fun z => na (by rw [z]; simp)) (fun a m => ?_) ⟨p0, _, _, rfl, upd_same, q3, h4.set hvy, rfl⟩ (by simp) (fun a m => ?_)
    · rw [List.set_append_right _ _ (Nat.le_add_right _ _), Nat.add_sub_cancel_left] at fin'
      exact hr y p C F' _ σs es σ kn ω D hK hl fin' hk' qn qb qc qr
    · by_cases z : a = p0
      · subst z; rw [upd_same]; exact fun z => by cases z
      · rw [upd_ne z]; exact m
    · simp at m; subst m
      exact ⟨by rw [upd_same]; exact (fun z => by cases z), .inl (by simp)⟩)
variable {np tp : Pos} {f : (τ → P → Option Ω) → Option Ω}
theorem sqT_ty {K : Fg} {H : Hp} {p : Addr} {vs : List V} (h : SqT K H p vs) : TyX K H (.ref p) (.type "tuple") := by
  rcases h with (h | ⟨o, h⟩) | ⟨o, its, n, h1, h2, _⟩
  · exact .base (.tup h)
  · exact .fTuple h
  · exact .kTuple h1 h2
/-- isinstance(a, tuple) of a tuple -/
theorem lx_isT (hE : ∀ x, ∃ ds, E.enc x = .tuple ds) (hm1 : X.mg "isinstance" = none) (hm2 : X.mg "tuple" = none) (ha : LX X env a (it E) e' f) (hg1 : Gl X "isinstance" := by rfl) (hg2 : Gl X "tuple" := by rfl)
    (hs : starEach [a, .Name "tuple" tp] X.env = (false, eval a X.env) :: starEach [.Name "tuple" tp] X.env := by rfl) (hs2 : starEach [.Name "tuple" tp] X.env = (false, eval (.Name "tuple" tp) X.env) :: starEach [] X.env := by rfl) (hpl : (backTo pos (starEach [.Name "tuple" tp] X.env)).any (·.1) = false := by rfl) :
    LX X env (.Call (.Name "isinstance" np) [a, .Name "tuple" tp] [] pos) (it eB) e' (fun k => f fun _ p => k true p) :=
  fun C F H σs es σ k ω Q hK hl h hk q => tE.of X (pe_callB call_isi hg1 hm1 (by rfl) (pa_cons (peC X) (pa_cons (pe_bltn (v := .ty "tuple") (u := .type "tuple") hg2 hm2 (by rfl) rfl) pa_nil hs2) hs) (by decide) (by decide) hs hpl) (ha C F H σs es σ _ ω _ hK hl h hk fun x p v F' H' hk' h' => by
    obtain ⟨v', fp, e1, _, r⟩ := h'.look (i := 0) rfl
    simp at e1; subst e1
    obtain ⟨ds, e⟩ := hE x
    rw [e] at r
    obtain ⟨t, vs, rfl, h1, h2⟩ := r.tup_inv
    exact ⟨_, _, _, _, true, rfl, .ty "tuple", sqT_ty (by rw [← hK]; exact same_sqT h'.sF h1), by unfold PySem.W.kitOne; rw [if_pos (by decide)], q true p (.bl true) F' H' hk' (h'.pop.pushSh (.bl true))⟩)
/-- len of a tuple of parts -/
theorem lx_lenT {n : Nat} (hE : ∀ x, ∃ ds, E.enc x = .tuple ds ∧ ds.length = n) (hm : X.mg "len" = none) (ha : LX X env a (it E) e' f) (hg : Gl X "len" := by rfl) (he : starEach (a :: []) X.env = (false, eval a X.env) :: starEach [] X.env := by rfl) (hpl : (backTo pos (starEach [] X.env)).any (·.1) = false := by rfl) :
    LX X env (.Call (.Name "len" np) [a] [] pos) (it eI) e' (fun k => f fun _ p => k (n : Int) p) :=
  lx_b1t (G := fun _ => True) (E := eI) (g := fun _ : τ => (n : Int)) call_len_seq hm PySem.boot_len (lo_of ha) (fun _ => trivial) (fun K F H fp v x Q hK s r q => by
    obtain ⟨_, r⟩ := r
    obtain ⟨ds, e, hn⟩ := hE x
    rw [e] at r
    obtain ⟨t, vs, rfl, h1, h2⟩ := r.tup_inv
    have := h2.length
    exact ⟨t, vs, rfl, .inr (by rw [← hK]; exact same_sqT s h1), by rw [this, hn]; exact q _ (.int _)⟩) hg (by decide) (by decide) he hpl
end
end Z

set_option Elab.async false
set_option linter.all false
set_option maxRecDepth 100000
namespace Z
open PySem PySem.Spec PyProof.Rows L2

/-! ### pairs in their order; ranges; walks that gather -/
abbrev lpp : Int × Int → Int × Int → Bool := lt2 ltI ltI
theorem lpp_iff {x y : Int × Int} : lpp x y = true ↔ (x.1 < y.1 ∨ (x.1 = y.1 ∧ x.2 < y.2)) := by
  unfold lpp lt2 ltI
  by_cases c : x.1 = y.1
  · rw [if_pos c, decide_eq_true_eq]; omega
  · rw [if_neg c, decide_eq_true_eq]; omega
theorem lpp_no {x y : Int × Int} : lpp x y = false ↔ ¬(x.1 < y.1 ∨ (x.1 = y.1 ∧ x.2 < y.2)) := by rw [← lpp_iff]; simp
theorem minB_pp {l : List (Int × Int)} {m : Int × Int} (hm : m ∈ l) (h : ∀ y ∈ l, lpp y m = false) : minB lpp l = some m := by
  have key : ∀ (l : List (Int × Int)) (a : Int × Int), (l.foldl (fun a y => if lpp y a = true then y else a) a ∈ a :: l) ∧ ∀ y ∈ a :: l, lpp y (l.foldl (fun a y => if lpp y a = true then y else a) a) = false := by
    intro l
    induction l with
    | nil => intro a; refine ⟨by simp, fun y m => ?_⟩; simp at m; subst m; rw [List.foldl_nil, lpp_no]; omega
    | cons b l ih =>
      intro a
      rw [List.foldl_cons]
      by_cases c : lpp b a = true
      · rw [if_pos c]
        obtain ⟨i1, i2⟩ := ih b
        refine ⟨by rcases List.mem_cons.1 i1 with h | h <;> simp [h], fun y m => ?_⟩
        rcases List.mem_cons.1 m with rfl | m
        · have i3 := i2 b (by simp)
          rw [lpp_no] at i3 ⊢
          rw [lpp_iff] at c
          omega
        · exact i2 y m
      · rw [if_neg c]
        obtain ⟨i1, i2⟩ := ih a
        refine ⟨by rcases List.mem_cons.1 i1 with h | h <;> simp [h], fun y m => ?_⟩
        rcases List.mem_cons.1 m with rfl | m
        · exact i2 _ (by simp)
        · rcases List.mem_cons.1 m with rfl | m
          · have i3 := i2 a (by simp)
            have c' : lpp y a = false := by simpa using c
            rw [lpp_no] at i3 c' ⊢
            omega
          · exact i2 y (by simp [m])
  cases l with
  | nil => cases hm
  | cons a l =>
    obtain ⟨i1, i2⟩ := key l a
    show some _ = some m
    have h1 := h _ i1
    have h2 := i2 m hm
    rw [lpp_no] at h1 h2
    exact congrArg some (Prod.ext (by omega) (by omega))
theorem mem_range2 {lo hi x : Int} : x ∈ rangeL lo hi ↔ lo ≤ x ∧ x < hi := by
  unfold rangeL
  simp only [List.mem_map, List.mem_range]
  exact ⟨fun ⟨i, h, e⟩ => by omega, fun h => ⟨(x - lo).toNat, by omega, by omega⟩⟩
theorem rangeL_len {lo hi : Int} : (rangeL lo hi).length = (hi - lo).toNat := by simp [rangeL]
theorem rangeL_cons {lo hi : Int} (h : lo < hi) : ∃ r, rangeL lo hi = lo :: r := by
  unfold rangeL
  obtain ⟨n, hn⟩ : ∃ n, (hi - lo).toNat = n + 1 := ⟨(hi - lo).toNat - 1, by omega⟩
  rw [hn, List.range_succ_eq_map, List.map_cons]
  exact ⟨_, by simp; rfl⟩
theorem rangeL_snoc {lo hi : Int} (h : lo < hi) : ∃ r, rangeL lo hi = r ++ [hi - 1] := by
  unfold rangeL
  obtain ⟨n, hn⟩ : ∃ n, (hi - lo).toNat = n + 1 := ⟨(hi - lo).toNat - 1, by omega⟩
  rw [hn, List.range_succ, List.map_append]
  refine ⟨_, congrArg _ ?_⟩
  simp; omega
theorem rgOk_small {lo hi : Int} (h1 : -1000000 ≤ lo) (h2 : lo ≤ 1000000) (h3 : -1000000 ≤ hi) (h4 : hi ≤ 1000000) : rgOk lo hi = true := decide_eq_true ⟨by omega, by omega, by omega, by omega⟩
theorem atI_last {α : Type} {l : List α} {a : α} : atI (l ++ [a]) (-(1 : Int)) = some a := by
  unfold atI ixN
  rw [if_neg (by decide), if_pos (by simp; omega)]
  show (l ++ [a])[_]? = _
  have : (-(1 : Int) + ((l ++ [a]).length : Int)).toNat = l.length := by simp; omega
  rw [this]; simp
theorem forO_cat {α β Ω : Type} (f : α → List β) (m N : Nat) {b : α → List β → (List β → Option Ω) → Option Ω} {k : List β → Option Ω} : ∀ (xs : List α) (s : List β), s.length + xs.length * m ≤ N →
    (∀ x ∈ xs, (f x).length ≤ m ∧ ∀ s kc, s.length + m ≤ N → b x s kc = kc (s ++ f x)) → forO xs s b k = k (s ++ xs.flatMap f)
  | [], s, _, _ => by simp [forO]
  | x :: xs, s, hl, h => by
    obtain ⟨h1, h2⟩ := h x (List.mem_cons_self ..)
    rw [List.length_cons, Nat.add_mul, Nat.one_mul] at hl
    refine (h2 s _ (by omega)).trans ?_
    rw [forO_cat f m N xs (s ++ f x) (by rw [List.length_append]; omega) fun y k => h y (List.mem_cons_of_mem _ k), List.flatMap_cons, List.append_assoc]
/-- the cells of a rectangle, column by column -/
def grid (x0 x1 y0 y1 : Int) : List (Int × Int) := (rangeL x0 x1).flatMap fun c => (rangeL y0 y1).map fun r => (c, r)
theorem grid_first {x0 x1 y0 y1 : Int} (hx : x0 < x1) (hy : y0 < y1) : atI (grid x0 x1 y0 y1) 0 = some (x0, y0) := by
  obtain ⟨r, e⟩ := rangeL_cons hx
  obtain ⟨q, e2⟩ := rangeL_cons hy
  unfold grid
  rw [e, e2]
  simp only [List.flatMap_cons, List.map_cons, List.cons_append]
  exact Z.atI_nat (xs := (x0, y0) :: _) (i := 0) (by simp)
theorem grid_last {x0 x1 y0 y1 : Int} (hx : x0 < x1) (hy : y0 < y1) : atI (grid x0 x1 y0 y1) (-(1 : Int)) = some (x1 - 1, y1 - 1) := by
  obtain ⟨r, e⟩ := rangeL_snoc hx
  obtain ⟨q, e2⟩ := rangeL_snoc hy
  unfold grid
  rw [e, e2]
  simp only [List.flatMap_append, List.map_append, List.flatMap_cons, List.flatMap_nil, List.map_cons, List.map_nil, List.append_nil, ← List.append_assoc]
  exact atI_last
end Z


namespace My
open PySem PySem.Spec PyProof.Rows L2 Z
def topS (i : Nat) : Stmt := PySem.Challenge.pw_cutwright_k02_placings.main.body.getD i (.Pass ⟨0, 0, 0, 0⟩)
abbrev s_turned : Stmt := topS 1
abbrev s_placed_cell : Stmt := topS 2
abbrev s_placed_anchor : Stmt := topS 3
abbrev s_placed_way : Stmt := topS 4
abbrev s_joined : Stmt := topS 5
abbrev s_covered : Stmt := topS 6
abbrev s_cells_of : Stmt := topS 7
abbrev s__law_draws : Stmt := topS 9
abbrev s__law_draw : Stmt := topS 10
abbrev s__law_put : Stmt := topS 11
abbrev s__law_place : Stmt := topS 12
abbrev s_law : Stmt := topS 13
structure Fa (K : Fg) (mg : Str → Option Value) where
  f_turned : Addr
  fd_turned : FuncData
  F_turned : Fun K "turned" "turned" s_turned f_turned fd_turned
  g_turned : mg "turned" = some (.ref f_turned)
  b_turned : Binds K fd_turned ["x", "y", "quarters"] []
  f_placed_cell : Addr
  fd_placed_cell : FuncData
  F_placed_cell : Fun K "placed_cell" "placed_cell" s_placed_cell f_placed_cell fd_placed_cell
  g_placed_cell : mg "placed_cell" = some (.ref f_placed_cell)
  b_placed_cell : Binds K fd_placed_cell ["place", "x", "y"] []
  f_placed_anchor : Addr
  fd_placed_anchor : FuncData
  F_placed_anchor : Fun K "placed_anchor" "placed_anchor" s_placed_anchor f_placed_anchor fd_placed_anchor
  g_placed_anchor : mg "placed_anchor" = some (.ref f_placed_anchor)
  b_placed_anchor : Binds K fd_placed_anchor ["place", "x", "y", "side"] []
  f_placed_way : Addr
  fd_placed_way : FuncData
  F_placed_way : Fun K "placed_way" "placed_way" s_placed_way f_placed_way fd_placed_way
  g_placed_way : mg "placed_way" = some (.ref f_placed_way)
  b_placed_way : Binds K fd_placed_way ["place", "way"] []
  f_joined : Addr
  fd_joined : FuncData
  F_joined : Fun K "joined" "joined" s_joined f_joined fd_joined
  g_joined : mg "joined" = some (.ref f_joined)
  b_joined : Binds K fd_joined ["outer", "inner"] []
  f_covered : Addr
  fd_covered : FuncData
  F_covered : Fun K "covered" "covered" s_covered f_covered fd_covered
  g_covered : mg "covered" = some (.ref f_covered)
  b_covered : Binds K fd_covered ["start", "end", "side"] []
  f_cells_of : Addr
  fd_cells_of : FuncData
  F_cells_of : Fun K "cells_of" "cells_of" s_cells_of f_cells_of fd_cells_of
  g_cells_of : mg "cells_of" = some (.ref f_cells_of)
  b_cells_of : Binds K fd_cells_of ["rectangle"] []
  f__law_draws : Addr
  fd__law_draws : FuncData
  F__law_draws : Fun K "_law_draws" "_law_draws" s__law_draws f__law_draws fd__law_draws
  g__law_draws : mg "_law_draws" = some (.ref f__law_draws)
  b__law_draws : Binds K fd__law_draws ["script"] []
  f__law_draw : Addr
  fd__law_draw : FuncData
  F__law_draw : Fun K "_law_draw" "_law_draw" s__law_draw f__law_draw fd__law_draw
  g__law_draw : mg "_law_draw" = some (.ref f__law_draw)
  b__law_draw : Binds K fd__law_draw ["draws", "limit"] []
  f__law_put : Addr
  fd__law_put : FuncData
  F__law_put : Fun K "_law_put" "_law_put" s__law_put f__law_put fd__law_put
  g__law_put : mg "_law_put" = some (.ref f__law_put)
  b__law_put : Binds K fd__law_put ["place", "cell"] []
  f__law_place : Addr
  fd__law_place : FuncData
  F__law_place : Fun K "_law_place" "_law_place" s__law_place f__law_place fd__law_place
  g__law_place : mg "_law_place" = some (.ref f__law_place)
  b__law_place : Binds K fd__law_place ["draws"] []
  f_law : Addr
  fd_law : FuncData
  F_law : Fun K "law" "law" s_law f_law fd_law
  g_law : mg "law" = some (.ref f_law)
  b_law : Binds K fd_law ["script"] []
  z_abs : mg "abs" = none
  z_int : mg "int" = none
  z_isinstance : mg "isinstance" = none
  z_len : mg "len" = none
  z_list : mg "list" = none
  z_max : mg "max" = none
  z_min : mg "min" = none
  z_range : mg "range" = none
  z_tuple : mg "tuple" = none

def m_turned (a_x : Int) (a_y : Int) (a_quarters : Int) : Option (Int × Int) :=
  ck (rgOk 0 a_quarters) (forO (rangeL 0 a_quarters) (a_x, a_y) (fun x3 (t2 : (Int × Int)) kc4 => (
    let x10 : Int := ((-(1 : Int)) - t2.2)
    let y11 : Int := t2.1
    kc4 (x10, y11)))
    fun t12 : (Int × Int) => (
    some (t12.1, t12.2)))
def m_placed_cell (a_place : (Int × Int × Int)) (a_x : Int) (a_y : Int) : Option (Int × Int) :=
  let x16 : (Int × Int × Int) := a_place
  let k21 := fun j20 : Int => (
    ck (modOk (4 : Int)) ((m_turned j20 a_y (Int.fmod x16.2.2 (4 : Int))).bind fun r29 =>
    let x30 : (Int × Int) := r29
    some ((x30.1 + x16.1), (x30.2 + x16.2.1))))
  if (decide ((4 : Int) ≤ x16.2.2)) = true then (
    let v_x_23 : Int := ((-(1 : Int)) - a_x)
    k21 v_x_23)
  else (
    k21 a_x)
def m_placed_anchor (a_place : (Int × Int × Int)) (a_x : Int) (a_y : Int) (a_side : Int) : Option (Int × Int) :=
  (m_placed_cell a_place a_x a_y).bind fun r39 =>
  let v_first_40 : (Int × Int) := r39
  (m_placed_cell a_place ((a_x + a_side) - (1 : Int)) ((a_y + a_side) - (1 : Int))).bind fun r49 =>
  let v_last_50 : (Int × Int) := r49
  some ((min v_first_40.1 v_last_50.1), (min v_first_40.2 v_last_50.2))
def m_placed_way (a_place : (Int × Int × Int)) (a_way : (Int × Int)) : Option (Int × Int) :=
  (m_placed_cell a_place (0 : Int) (0 : Int)).bind fun r59 =>
  let v_zero_60 : (Int × Int) := r59
  (m_placed_cell a_place a_way.1 a_way.2).bind fun r65 =>
  let v_one_66 : (Int × Int) := r65
  some ((v_one_66.1 - v_zero_60.1), (v_one_66.2 - v_zero_60.2))
def m_joined (fu : Nat) (a_outer : (Int × Int × Int)) (a_inner : (Int × Int × Int)) : Option (Int × Int × Int) :=
  let v_mirrored_75 : Bool := (!decide ((decide ((4 : Int) ≤ a_inner.2.2)) = (decide ((4 : Int) ≤ a_outer.2.2))))
  (m_placed_way a_inner ((1 : Int), (0 : Int))).bind fun r82 =>
  (m_placed_way a_outer r82).bind fun r84 =>
  let v_east_85 : (Int × Int) := r84
  (m_placed_cell a_inner (0 : Int) (0 : Int)).bind fun r90 =>
  let v_first_91 : (Int × Int) := r90
  (m_placed_cell a_outer v_first_91.1 v_first_91.2).bind fun r96 =>
  let v_goal_97 : (Int × Int) := r96
  ck (mulOk (4 : Int) (if v_mirrored_75 = true then (1 : Int) else 0)) (let v_way_100 : Int := ((4 : Int) * (if v_mirrored_75 = true then (1 : Int) else 0))
  let k133 := fun t118 : Int => (
    (m_placed_cell ((0 : Int), (0 : Int), t118) (0 : Int) (0 : Int)).bind fun r125 =>
    let v_here_126 : (Int × Int) := r125
    some ((v_goal_97.1 - v_here_126.1), (v_goal_97.2 - v_here_126.2), t118))
  whileO fu v_way_100 fun (t102 : Int) kc103 => (
    (m_placed_way ((0 : Int), (0 : Int), t102) ((1 : Int), (0 : Int))).bind fun r113 =>
    if (!decide (r113 = v_east_85)) = true then (
      let v_way_116 : Int := (t102 + (1 : Int))
      kc103 v_way_116)
    else k133 t102))
def m_covered (a_start : (Int × Int)) (a_end : (Int × Int)) (a_side : Int) : Option (Int × Int × Int × Int) :=
  let v_low_138 : (Int × Int) := ((min a_start.1 a_end.1), (min a_start.2 a_end.2))
  some (v_low_138.1, v_low_138.2, ((if (a_end.1 - a_start.1) < 0 then -(a_end.1 - a_start.1) else (a_end.1 - a_start.1)) + a_side), ((if (a_end.2 - a_start.2) < 0 then -(a_end.2 - a_start.2) else (a_end.2 - a_start.2)) + a_side))
def m_cells_of (a_rectangle : (Int × Int × Int × Int)) : Option (List (Int × Int)) :=
  let x150 : (Int × Int × Int × Int) := a_rectangle
  let v_found_152 : (List (Int × Int)) := ([] : (List (Int × Int)))
  ck (rgOk x150.1 (x150.1 + x150.2.2.1)) (forO (rangeL x150.1 (x150.1 + x150.2.2.1)) v_found_152 (fun x158 (t157 : (List (Int × Int))) kc159 => (
    ck (rgOk x150.2.1 (x150.2.1 + x150.2.2.2)) (compO (rangeL x150.2.1 (x150.2.1 + x150.2.2.2)) () (fun x167 (t166 : Unit) kc174 => (
      kc174 (some (x158, x167)) ())) [] fun (ys172 : List (Int × Int)) (t173 : Unit) => (
      let z176 : (List (Int × Int)) := ys172
      ck (decide (List.length t157 + List.length z176 ≤ SZ)) (
      let w175 : (List (Int × Int)) := t157 ++ z176
      kc159 w175)))))
    fun t177 : (List (Int × Int)) => (
    some t177))
def m__law_draws (a_script : List Int) : Option ((List Int) × Int × Int × Int) :=
  some (a_script, (0 : Int), (0 : Int), (1 : Int))
def m__law_draw (t0 : ((List Int) × Int × Int × Int)) (a_limit : Int) : Option (Int × ((List Int) × Int × Int × Int)) :=
  let k239 := fun z : Bool => (let k188 := fun j187 : ((List Int) × Int × Int × Int) => (
    if (decide ((0 : Int) < j187.2.2.1)) = true then (
      ck (modOk a_limit) (let v_value_222 : Int := (Int.fmod j187.2.2.1 a_limit)
      ck (divOk a_limit) (let y228 : Int := (Int.fdiv j187.2.2.1 a_limit)
      let v_draws_227 : ((List Int) × Int × Int × Int) := (j187.1, j187.2.1, y228, j187.2.2.2)
      some (v_value_222, v_draws_227))))
    else (
      ck (mulOk j187.2.2.2 (69621 : Int)) (ck (modOk (2147483629 : Int)) (let y236 : Int := (Int.fmod ((j187.2.2.2 * (69621 : Int)) + (7 : Int)) (2147483629 : Int))
      let v_draws_235 : ((List Int) × Int × Int × Int) := (j187.1, j187.2.1, j187.2.2.1, y236)
      ck (divOk (11 : Int)) (ck (modOk a_limit) (some ((Int.fmod (Int.fdiv v_draws_235.2.2.2 (11 : Int)) a_limit), v_draws_235)))))))
  if z = true then (
    (atI t0.1 t0.2.1).bind fun y190 =>
    let v_cell_191 : Int := y190
    let y197 : Int := (t0.2.1 + (1 : Int))
    let v_draws_196 : ((List Int) × Int × Int × Int) := (t0.1, y197, t0.2.2.1, t0.2.2.2)
    ck (powOk (10 : Int) (18 : Int)) (let k202 := fun j201 : ((List Int) × Int × Int × Int) => (
      ck (mulOk j201.2.2.2 (48271 : Int)) (ck (modOk (2147483647 : Int)) (let y218 : Int := (Int.fmod (((j201.2.2.2 * (48271 : Int)) + v_cell_191) + (13 : Int)) (2147483647 : Int))
      let v_draws_217 : ((List Int) × Int × Int × Int) := (j201.1, j201.2.1, j201.2.2.1, y218)
      k188 v_draws_217)))
    if (decide (((10 : Int) ^ Int.toNat (18 : Int)) ≤ v_cell_191)) = true then (
      let y206 : Int := v_cell_191
      let v_draws_205 : ((List Int) × Int × Int × Int) := (v_draws_196.1, v_draws_196.2.1, y206, v_draws_196.2.2.2)
      k202 v_draws_205)
    else (
      k202 v_draws_196)))
  else (
    k188 t0))
  if (decide (t0.2.2.1 = (0 : Int))) = true then (k239 (decide (t0.2.1 < (List.length t0.1 : Int)))) else k239 false
def m__law_put (a_place : (Int × Int × Int)) (a_cell : (Int × Int)) : Option (Int × Int) :=
  let x240 : (Int × Int) := a_cell
  let k245 := fun j244 : Int => (
    ck (modOk (4 : Int)) (ck (rgOk 0 (Int.fmod a_place.2.2 (4 : Int))) (forO (rangeL 0 (Int.fmod a_place.2.2 (4 : Int))) (j244, x240.2) (fun x252 (t251 : (Int × Int)) kc253 => (
      let x259 : Int := ((-(1 : Int)) - t251.2)
      let y260 : Int := t251.1
      kc253 (x259, y260)))
      fun t261 : (Int × Int) => (
      some ((t261.1 + a_place.1), (t261.2 + a_place.2.1))))))
  if (decide ((4 : Int) ≤ a_place.2.2)) = true then (
    let v_x_247 : Int := ((-(1 : Int)) - x240.1)
    k245 v_x_247)
  else (
    k245 x240.1)
def m__law_place (t0 : ((List Int) × Int × Int × Int))  : Option ((Int × Int × Int) × ((List Int) × Int × Int × Int)) :=
  (m__law_draw t0 (3 : Int)).bind fun r272 =>
  (atI ([(3 : Int), (30 : Int), (200 : Int)]) r272.1).bind fun y273 =>
  let v_far_274 : Int := y273
  ck (mulOk (2 : Int) v_far_274) ((m__law_draw r272.2 ((2 : Int) * v_far_274)).bind fun r278 =>
  ck (mulOk (2 : Int) v_far_274) ((m__law_draw r278.2 ((2 : Int) * v_far_274)).bind fun r283 =>
  (m__law_draw r283.2 (8 : Int)).bind fun r287 =>
  some (((r278.1 - v_far_274), (r283.1 - v_far_274), r287.1), r287.2)))
def m_law (fu : Nat) (a_script : List Int) : Option Bool :=
  (m__law_draws a_script).bind fun r290 =>
  let v_draws_291 : ((List Int) × Int × Int × Int) := r290
  (m__law_place v_draws_291).bind fun r293 =>
  let v_outer_294 : (Int × Int × Int) := r293.1
  (m__law_place r293.2).bind fun r296 =>
  let v_inner_297 : (Int × Int × Int) := r296.1
  (m_joined fu v_outer_294 v_inner_297).bind fun r301 =>
  let v_both_302 : (Int × Int × Int) := r301
  let k486 := fun z : Bool => (if z = true then (
    some false)
  else (
    ck (rgOk 0 (5 : Int)) (forO (rangeL 0 (5 : Int)) r296.2 (fun x309 (t308 : ((List Int) × Int × Int × Int)) kc310 => (
      (m__law_draw t308 (60 : Int)).bind fun r313 =>
      (m__law_draw r313.2 (60 : Int)).bind fun r317 =>
      let v_cell_320 : (Int × Int) := ((r313.1 - (30 : Int)), (r317.1 - (30 : Int)))
      (m__law_put v_inner_297 v_cell_320).bind fun r325 =>
      (m__law_put v_outer_294 r325).bind fun r327 =>
      let v_due_328 : (Int × Int) := r327
      (m_placed_cell v_outer_294 v_cell_320.1 v_cell_320.2).bind fun r333 =>
      (m__law_put v_outer_294 v_cell_320).bind fun r337 =>
      let k483 := fun z : Bool => (if z = true then (
        some false)
      else (
        (m__law_draw r317.2 (7 : Int)).bind fun r347 =>
        let v_side_348 : Int := ((1 : Int) + r347.1)
        let v_cells_350 : (List (Int × Int)) := ([] : (List (Int × Int)))
        ck (rgOk 0 v_side_348) (forO (rangeL 0 v_side_348) v_cells_350 (fun x354 (t353 : (List (Int × Int))) kc355 => (
          ck (rgOk 0 v_side_348) (compO (rangeL 0 v_side_348) () (fun x360 (t359 : Unit) kc372 => (
            (m__law_put v_outer_294 ((v_cell_320.1 + x354), (v_cell_320.2 + x360))).bind fun r368 =>
            kc372 (some r368) ())) [] fun (ys370 : List (Int × Int)) (t371 : Unit) => (
            let z373 : (List (Int × Int)) := t353
            let z374 : (List (Int × Int)) := ys370
            ck (decide (List.length z373 + List.length z374 ≤ SZ)) (let v_cells_375 : (List (Int × Int)) := (z373 ++ z374)
            kc355 v_cells_375)))))
          fun t377 : (List (Int × Int)) => (
          (m_placed_anchor v_outer_294 v_cell_320.1 v_cell_320.2 v_side_348).bind fun r382 =>
          (minB (lt2 ltI ltI) t377).bind fun y384 =>
          if (!decide (r382 = y384)) = true then (
            some false)
          else (
            (m__law_draw r347.2 (20 : Int)).bind fun r387 =>
            let v_way_389 : Int := (r387.1 - (10 : Int))
            (m__law_draw r387.2 (2 : Int)).bind fun r392 =>
            let k480 := fun z481 : (Int × Int) => (
              let v_end_401 : (Int × Int) := z481
              let v_due_403 : (List (Int × Int)) := ([] : (List (Int × Int)))
              ck (rgOk (min v_cell_320.1 v_end_401.1) ((max v_cell_320.1 v_end_401.1) + v_side_348)) (forO (rangeL (min v_cell_320.1 v_end_401.1) ((max v_cell_320.1 v_end_401.1) + v_side_348)) v_due_403 (fun x412 (t411 : (List (Int × Int))) kc413 => (
                ck (rgOk (min v_cell_320.2 v_end_401.2) ((max v_cell_320.2 v_end_401.2) + v_side_348)) (compO (rangeL (min v_cell_320.2 v_end_401.2) ((max v_cell_320.2 v_end_401.2) + v_side_348)) () (fun x423 (t422 : Unit) kc430 => (
                  kc430 (some (x412, x423)) ())) [] fun (ys428 : List (Int × Int)) (t429 : Unit) => (
                  let z431 : (List (Int × Int)) := t411
                  let z432 : (List (Int × Int)) := ys428
                  ck (decide (List.length z431 + List.length z432 ≤ SZ)) (let v_due_433 : (List (Int × Int)) := (z431 ++ z432)
                  kc413 v_due_433)))))
                fun t435 : (List (Int × Int)) => (
                (m_covered v_cell_320 v_end_401 v_side_348).bind fun r439 =>
                let v_told_440 : (Int × Int × Int × Int) := r439
                (atI t435 (0 : Int)).bind fun y444 =>
                (atI t435 (0 : Int)).bind fun y447 =>
                (atI t435 (-(1 : Int))).bind fun y455 =>
                (atI t435 (0 : Int)).bind fun y458 =>
                (atI t435 (-(1 : Int))).bind fun y467 =>
                (atI t435 (0 : Int)).bind fun y470 =>
                let k478 := fun z : Bool => (if z = true then (
                  some false)
                else (
                  kc310 r392.2))
                if (!decide (v_told_440 = (y444.1, y447.2, ((y455.1 - y458.1) + (1 : Int)), ((y467.2 - y470.2) + (1 : Int))))) = true then k478 true else ((m_cells_of v_told_440).bind fun r475 =>
                k478 (!decide (r475 = t435))))))
            if (decide (r392.1 = (0 : Int))) = true then (k480 ((v_cell_320.1 + v_way_389), v_cell_320.2)) else (k480 (v_cell_320.1, (v_cell_320.2 + v_way_389))))))))
      if (!decide (r333 = r337)) = true then k483 true else ((m_placed_cell v_both_302 v_cell_320.1 v_cell_320.2).bind fun r342 =>
      k483 (!decide (r342 = v_due_328)))))
      fun t484 : ((List Int) × Int × Int × Int) => (
      some true))))
  if (!true) = true then k486 true else (k486 (!decide (((3 : Nat) : Int) = (3 : Int))))
section
variable {P : Program} {w : World} {K : Fg} {mg : Str → Option Value} {base : Heap}
abbrev n_turned : List Str := ["x", "y", "quarters", "turn"]
theorem sc_turned : FnScope n_turned ["x", "y", "quarters"] (defScope s_turned) := ⟨rfl, rfl, rfl, by decide +kernel, rfl, by decide +kernel, by decide +kernel⟩
abbrev sp_turned (K : Fg) : Sp := spP K (fun a : Int × Int × Int × Unit => [.st none Int (it eI) a.1, .st none Int (it eI) a.2.1, .st none Int (it eI) a.2.2.1]) (it (eT2 eI eI)) (fun a => m_turned a.1 a.2.1 a.2.2.1)
set_option maxHeartbeats 0 in
theorem ok_turned (fa : Fa K mg) : FnOk P w K mg base CX0 1 fa.f_turned fa.fd_turned ["x", "y", "quarters"] (sp_turned K) := by
  refine fnP fa.F_turned sc_turned 1 rfl (fun _ => rfl) fun cdv A' outer s H E hr => ?_
  have nd := sc_turned.nd
  have hu := hr.units
  rintro ⟨a_x, a_y, a_quarters, _⟩
  exact lb_use (env := [.st none Int (it eI) a_x, .st none Int (it eI) a_y, .st none Int (it eI) a_quarters, .un])
    (lb_for (envT := (fun t2 : (Int × Int) => [.st none Int (it eI) t2.1, .st none Int (it eI) t2.2, .st none Int (it eI) a_quarters, .un])) PassesOwn.never rfl (li_range1 (by rfl) fa.z_range (lx_var 2 cp_it rfl)) (fun p1 => (a_x, a_y)) (fun p1 => (Sub.refl _)) (fun t2 => (lg_name 3 nd)) (fun x3 t2 kc4 kb5 => (lb_par 0 1 nd rfl (la_cons (lx_sub (lx_neg lx_int) (fun p6 => (lx_var 1 cp_it rfl))) (fun p7 => (la_cons (lx_var 0 cp_it rfl) (fun p8 => la_nil)))) (fun x10 y11 p9 => (lb_end (x10, y11) (.keep (.keep (.keep (.drop Sub.nil)))))))) (fun t12 => (lb_ret (lx_tup (la_cons (lx_var 0 cp_it rfl) (fun p13 => (la_cons (lx_var 1 cp_it rfl) (fun p14 => la_nil)))) (eT2 eI eI) (fun a : Int × Int × Unit => (a.1, a.2.1)) (fun a => [eI.enc a.1, eI.enc a.2.1]) (fun _ => (.cons (.cons .nil))) (fun _ => rfl)) (fun _ => ()) (fun p => (.drop (.drop (.drop (.keep Sub.nil))))))))
    (by first | (unfold m_turned; dsimp only [id]; done) | (unfold m_turned; dsimp only [id]; rfl) | rfl)
abbrev n_placed_cell : List Str := ["place", "x", "y", "left", "low", "way"]
theorem sc_placed_cell : FnScope n_placed_cell ["place", "x", "y"] (defScope s_placed_cell) := ⟨rfl, rfl, rfl, by decide +kernel, rfl, by decide +kernel, by decide +kernel⟩
abbrev sp_placed_cell (K : Fg) : Sp := spP K (fun a : (Int × Int × Int) × Int × Int × Unit => [.st none (Int × Int × Int) (it (eT3 eI eI eI)) a.1, .st none Int (it eI) a.2.1, .st none Int (it eI) a.2.2.1]) (it (eT2 eI eI)) (fun a => m_placed_cell a.1 a.2.1 a.2.2.1)
set_option maxHeartbeats 0 in
theorem ok_placed_cell (fa : Fa K mg) : FnOk P w K mg base CX0 2 fa.f_placed_cell fa.fd_placed_cell ["place", "x", "y"] (sp_placed_cell K) := by
  refine fnP fa.F_placed_cell sc_placed_cell 3 rfl (fun _ => rfl) fun cdv A' outer s H E hr => ?_
  have nd := sc_placed_cell.nd
  have hu := hr.units
  rintro ⟨a_place, a_x, a_y, _⟩
  exact lb_use (env := [.st none (Int × Int × Int) (it (eT3 eI eI eI)) a_place, .st none Int (it eI) a_x, .st none Int (it eI) a_y, .un, .un, .un])
    (lb_asg (lx_var 0 cp_it rfl) (fun p17 => (lg_tup (E := (eT3 eI eI eI)) (lgs_cons (lg_name 3 nd) (fun _ => (lgs_cons (lg_name 4 nd) (fun _ => (lgs_cons (lg_name 5 nd) (fun _ => lgs_nil)))))) (fun x => (x.1, x.2.1, x.2.2, ())) (fun a : Int × Int × Int × Unit => [eI.enc (a.1), eI.enc (a.2.1), eI.enc (a.2.2.1)]) (fun _ => (.cons (.cons (.cons .nil)))) (fun _ => rfl) rfl (fun _ => rfl))) (fun x16 p17 => (lb_if (env1 := (fun j20 : Int => [.st none (Int × Int × Int) (it (eT3 eI eI eI)) a_place, .st none Int (it eI) j20, .st none Int (it eI) a_y, .st none Int (it eI) x16.1, .st none Int (it eI) x16.2.1, .st none Int (it eI) x16.2.2])) (lt_cmp (lc_ge (lx_var 5 cp_it rfl) (fun p18 => lx_int)) (nomark _)) (fun p19 => (lb_set 1 nd (lx_sub (lx_neg lx_int) (fun p22 => (lx_var 1 cp_it rfl))) (fun v_x_23 p24 => (lb_end v_x_23 (Sub.refl _))))) (fun p19 => (lb_end a_x (Sub.refl _))) (fun j20 => (lb_asg (lx_call (ok_turned fa) (hr.mono (by decide)) fa.g_turned fa.F_turned.kp fa.b_turned (fun _ => (.cons cp_it (.cons cp_it (.cons cp_it .nil)))) (la_cons (lx_var 1 cp_it rfl) (fun p25 => (la_cons (lx_var 2 cp_it rfl) (fun p26 => (la_cons (lx_mod (lx_var 5 cp_it rfl) (fun p27 => lx_int)) (fun p28 => la_nil))))))) (fun p31 => (lg_tup (E := (eT2 eI eI)) (lgs_cons (lg_name 1 nd) (fun _ => (lgs_cons (lg_name 2 nd) (fun _ => lgs_nil)))) (fun x => (x.1, x.2, ())) (fun a : Int × Int × Unit => [eI.enc (a.1), eI.enc (a.2.1)]) (fun _ => (.cons (.cons .nil))) (fun _ => rfl) rfl (fun _ => rfl))) (fun x30 p31 => (lb_ret (lx_tup (la_cons (lx_add (lx_var 1 cp_it rfl) (fun p32 => (lx_var 3 cp_it rfl))) (fun p33 => (la_cons (lx_add (lx_var 2 cp_it rfl) (fun p34 => (lx_var 4 cp_it rfl))) (fun p35 => la_nil)))) (eT2 eI eI) (fun a : Int × Int × Unit => (a.1, a.2.1)) (fun a => [eI.enc a.1, eI.enc a.2.1]) (fun _ => (.cons (.cons .nil))) (fun _ => rfl)) (fun _ => ()) (fun p => (.drop (.drop (.drop (.drop (.drop (.drop Sub.nil))))))))))))))
    (by first | (unfold m_placed_cell; dsimp only [id]; done) | (unfold m_placed_cell; dsimp only [id]; rfl) | rfl)
abbrev n_placed_anchor : List Str := ["place", "x", "y", "side", "first", "last"]
theorem sc_placed_anchor : FnScope n_placed_anchor ["place", "x", "y", "side"] (defScope s_placed_anchor) := ⟨rfl, rfl, rfl, by decide +kernel, rfl, by decide +kernel, by decide +kernel⟩
abbrev sp_placed_anchor (K : Fg) : Sp := spP K (fun a : (Int × Int × Int) × Int × Int × Int × Unit => [.st none (Int × Int × Int) (it (eT3 eI eI eI)) a.1, .st none Int (it eI) a.2.1, .st none Int (it eI) a.2.2.1, .st none Int (it eI) a.2.2.2.1]) (it (eT2 eI eI)) (fun a => m_placed_anchor a.1 a.2.1 a.2.2.1 a.2.2.2.1)
set_option maxHeartbeats 0 in
theorem ok_placed_anchor (fa : Fa K mg) : FnOk P w K mg base CX0 3 fa.f_placed_anchor fa.fd_placed_anchor ["place", "x", "y", "side"] (sp_placed_anchor K) := by
  refine fnP fa.F_placed_anchor sc_placed_anchor 2 rfl (fun _ => rfl) fun cdv A' outer s H E hr => ?_
  have nd := sc_placed_anchor.nd
  have hu := hr.units
  rintro ⟨a_place, a_x, a_y, a_side, _⟩
  exact lb_use (env := [.st none (Int × Int × Int) (it (eT3 eI eI eI)) a_place, .st none Int (it eI) a_x, .st none Int (it eI) a_y, .st none Int (it eI) a_side, .un, .un])
    (lb_set 4 nd (lx_call (ok_placed_cell fa) (hr.mono (by decide)) fa.g_placed_cell fa.F_placed_cell.kp fa.b_placed_cell (fun _ => (.cons cp_it (.cons cp_it (.cons cp_it .nil)))) (la_cons (lx_var 0 cp_it rfl) (fun p36 => (la_cons (lx_var 1 cp_it rfl) (fun p37 => (la_cons (lx_var 2 cp_it rfl) (fun p38 => la_nil))))))) (fun v_first_40 p41 => (lb_set 5 nd (lx_call (ok_placed_cell fa) (hr.mono (by decide)) fa.g_placed_cell fa.F_placed_cell.kp fa.b_placed_cell (fun _ => (.cons cp_it (.cons cp_it (.cons cp_it .nil)))) (la_cons (lx_var 0 cp_it rfl) (fun p42 => (la_cons (lx_sub (lx_add (lx_var 1 cp_it rfl) (fun p43 => (lx_var 3 cp_it rfl))) (fun p44 => lx_int)) (fun p45 => (la_cons (lx_sub (lx_add (lx_var 2 cp_it rfl) (fun p46 => (lx_var 3 cp_it rfl))) (fun p47 => lx_int)) (fun p48 => la_nil))))))) (fun v_last_50 p51 => (lb_ret (lx_tup (la_cons (lx_min2 rfl fa.z_min (lx_part part2_0 (lx_var 4 cp_it rfl)) (fun p52 => (lx_part part2_0 (lx_var 5 cp_it rfl)))) (fun p53 => (la_cons (lx_min2 rfl fa.z_min (lx_part part2_1 (lx_var 4 cp_it rfl)) (fun p54 => (lx_part part2_1 (lx_var 5 cp_it rfl)))) (fun p55 => la_nil)))) (eT2 eI eI) (fun a : Int × Int × Unit => (a.1, a.2.1)) (fun a => [eI.enc a.1, eI.enc a.2.1]) (fun _ => (.cons (.cons .nil))) (fun _ => rfl)) (fun _ => ()) (fun p => (.drop (.drop (.drop (.drop (.drop (.drop Sub.nil))))))))))))
    (by first | (unfold m_placed_anchor; dsimp only [id]; done) | (unfold m_placed_anchor; dsimp only [id]; rfl) | rfl)
abbrev n_placed_way : List Str := ["place", "way", "zero", "one"]
theorem sc_placed_way : FnScope n_placed_way ["place", "way"] (defScope s_placed_way) := ⟨rfl, rfl, rfl, by decide +kernel, rfl, by decide +kernel, by decide +kernel⟩
abbrev sp_placed_way (K : Fg) : Sp := spP K (fun a : (Int × Int × Int) × (Int × Int) × Unit => [.st none (Int × Int × Int) (it (eT3 eI eI eI)) a.1, .st none (Int × Int) (it (eT2 eI eI)) a.2.1]) (it (eT2 eI eI)) (fun a => m_placed_way a.1 a.2.1)
set_option maxHeartbeats 0 in
theorem ok_placed_way (fa : Fa K mg) : FnOk P w K mg base CX0 3 fa.f_placed_way fa.fd_placed_way ["place", "way"] (sp_placed_way K) := by
  refine fnP fa.F_placed_way sc_placed_way 2 rfl (fun _ => rfl) fun cdv A' outer s H E hr => ?_
  have nd := sc_placed_way.nd
  have hu := hr.units
  rintro ⟨a_place, a_way, _⟩
  exact lb_use (env := [.st none (Int × Int × Int) (it (eT3 eI eI eI)) a_place, .st none (Int × Int) (it (eT2 eI eI)) a_way, .un, .un])
    (lb_set 2 nd (lx_call (ok_placed_cell fa) (hr.mono (by decide)) fa.g_placed_cell fa.F_placed_cell.kp fa.b_placed_cell (fun _ => (.cons cp_it (.cons cp_it (.cons cp_it .nil)))) (la_cons (lx_var 0 cp_it rfl) (fun p56 => (la_cons lx_int (fun p57 => (la_cons lx_int (fun p58 => la_nil))))))) (fun v_zero_60 p61 => (lb_set 3 nd (lx_call (ok_placed_cell fa) (hr.mono (by decide)) fa.g_placed_cell fa.F_placed_cell.kp fa.b_placed_cell (fun _ => (.cons cp_it (.cons cp_it (.cons cp_it .nil)))) (la_cons (lx_var 0 cp_it rfl) (fun p62 => (la_cons (lx_part part2_0 (lx_var 1 cp_it rfl)) (fun p63 => (la_cons (lx_part part2_1 (lx_var 1 cp_it rfl)) (fun p64 => la_nil))))))) (fun v_one_66 p67 => (lb_ret (lx_tup (la_cons (lx_sub (lx_part part2_0 (lx_var 3 cp_it rfl)) (fun p68 => (lx_part part2_0 (lx_var 2 cp_it rfl)))) (fun p69 => (la_cons (lx_sub (lx_part part2_1 (lx_var 3 cp_it rfl)) (fun p70 => (lx_part part2_1 (lx_var 2 cp_it rfl)))) (fun p71 => la_nil)))) (eT2 eI eI) (fun a : Int × Int × Unit => (a.1, a.2.1)) (fun a => [eI.enc a.1, eI.enc a.2.1]) (fun _ => (.cons (.cons .nil))) (fun _ => rfl)) (fun _ => ()) (fun p => (.drop (.drop (.drop (.drop Sub.nil))))))))))
    (by first | (unfold m_placed_way; dsimp only [id]; done) | (unfold m_placed_way; dsimp only [id]; rfl) | rfl)
abbrev n_joined : List Str := ["outer", "inner", "mirrored", "east", "first", "goal", "way", "here"]
theorem sc_joined : FnScope n_joined ["outer", "inner"] (defScope s_joined) := ⟨rfl, rfl, rfl, by decide +kernel, rfl, by decide +kernel, by decide +kernel⟩
abbrev sp_joined (K : Fg) (fu : Nat) : Sp := spP K (fun a : (Int × Int × Int) × (Int × Int × Int) × Unit => [.st none (Int × Int × Int) (it (eT3 eI eI eI)) a.1, .st none (Int × Int × Int) (it (eT3 eI eI eI)) a.2.1]) (it (eT3 eI eI eI)) (fun a => m_joined fu a.1 a.2.1)
set_option maxHeartbeats 0 in
theorem ok_joined (fa : Fa K mg) (fu : Nat) : FnOk P w K mg base CX0 4 fa.f_joined fa.fd_joined ["outer", "inner"] (sp_joined K fu) := by
  refine fnP fa.F_joined sc_joined 6 rfl (fun _ => rfl) fun cdv A' outer s H E hr => ?_
  have nd := sc_joined.nd
  have hu := hr.units
  rintro ⟨a_outer, a_inner, _⟩
  exact lb_use (env := [.st none (Int × Int × Int) (it (eT3 eI eI eI)) a_outer, .st none (Int × Int × Int) (it (eT3 eI eI eI)) a_inner, .un, .un, .un, .un, .un, .un])
    (lb_set 2 nd (lx_cmp (lc_neT hu dv_it dv_it dtB evB (lo_of (lx_cmp (lc_ge (lx_part part3_2 (lx_var 1 cp_it rfl)) (fun p72 => lx_int)) (nomark _))) (fun p73 => (lo_of (lx_cmp (lc_ge (lx_part part3_2 (lx_var 0 cp_it rfl)) (fun p74 => lx_int)) (nomark _)))) (fun _ _ => trivial) (fun _ _ => trivial)) (nomark _)) (fun v_mirrored_75 p76 => (lb_set 3 nd (lx_call (ok_placed_way fa) (hr.mono (by decide)) fa.g_placed_way fa.F_placed_way.kp fa.b_placed_way (fun _ => (.cons cp_it (.cons cp_it .nil))) (la_cons (lx_var 0 cp_it rfl) (fun p77 => (la_cons (lx_call (ok_placed_way fa) (hr.mono (by decide)) fa.g_placed_way fa.F_placed_way.kp fa.b_placed_way (fun _ => (.cons cp_it (.cons cp_it .nil))) (la_cons (lx_var 1 cp_it rfl) (fun p78 => (la_cons (lx_tup (la_cons lx_int (fun p79 => (la_cons lx_int (fun p80 => la_nil)))) (eT2 eI eI) (fun a : Int × Int × Unit => (a.1, a.2.1)) (fun a => [eI.enc a.1, eI.enc a.2.1]) (fun _ => (.cons (.cons .nil))) (fun _ => rfl)) (fun p81 => la_nil))))) (fun p83 => la_nil))))) (fun v_east_85 p86 => (lb_set 4 nd (lx_call (ok_placed_cell fa) (hr.mono (by decide)) fa.g_placed_cell fa.F_placed_cell.kp fa.b_placed_cell (fun _ => (.cons cp_it (.cons cp_it (.cons cp_it .nil)))) (la_cons (lx_var 1 cp_it rfl) (fun p87 => (la_cons lx_int (fun p88 => (la_cons lx_int (fun p89 => la_nil))))))) (fun v_first_91 p92 => (lb_set 5 nd (lx_call (ok_placed_cell fa) (hr.mono (by decide)) fa.g_placed_cell fa.F_placed_cell.kp fa.b_placed_cell (fun _ => (.cons cp_it (.cons cp_it (.cons cp_it .nil)))) (la_cons (lx_var 0 cp_it rfl) (fun p93 => (la_cons (lx_part part2_0 (lx_var 4 cp_it rfl)) (fun p94 => (la_cons (lx_part part2_1 (lx_var 4 cp_it rfl)) (fun p95 => la_nil))))))) (fun v_goal_97 p98 => (lb_set 6 nd (lx_mul lx_int (fun p99 => (lx_intB fa.z_int (lx_var 2 cp_it rfl)))) (fun v_way_100 p101 => (lb_while (envT := (fun t102 : Int => [.st none (Int × Int × Int) (it (eT3 eI eI eI)) a_outer, .st none (Int × Int × Int) (it (eT3 eI eI eI)) a_inner, .st none Bool (it eB) v_mirrored_75, .st none (Int × Int) (it (eT2 eI eI)) v_east_85, .st none (Int × Int) (it (eT2 eI eI)) v_first_91, .st none (Int × Int) (it (eT2 eI eI)) v_goal_97, .st none Int (it eI) t102, .un])) fu PassesOwn.never v_way_100 (Sub.refl _) (fun t102 => (lt_cmp (lc_neT hu dv_it dv_it (dtT2 dtI dtI) (evT2 evI evI) (lo_of (lx_call (ok_placed_way fa) (hr.mono (by decide)) fa.g_placed_way fa.F_placed_way.kp fa.b_placed_way (fun _ => (.cons cp_it (.cons cp_it .nil))) (la_cons (lx_tup (la_cons lx_int (fun p106 => (la_cons lx_int (fun p107 => (la_cons (lx_var 6 cp_it rfl) (fun p108 => la_nil)))))) (eT3 eI eI eI) (fun a : Int × Int × Int × Unit => (a.1, a.2.1, a.2.2.1)) (fun a => [eI.enc a.1, eI.enc a.2.1, eI.enc a.2.2.1]) (fun _ => (.cons (.cons (.cons .nil)))) (fun _ => rfl)) (fun p109 => (la_cons (lx_tup (la_cons lx_int (fun p110 => (la_cons lx_int (fun p111 => la_nil)))) (eT2 eI eI) (fun a : Int × Int × Unit => (a.1, a.2.1)) (fun a => [eI.enc a.1, eI.enc a.2.1]) (fun _ => (.cons (.cons .nil))) (fun _ => rfl)) (fun p112 => la_nil)))))) (fun p114 => (lo_of (lx_var 3 cp_it rfl))) (fun _ _ => trivial) (fun _ _ => trivial)) (nomark _))) (fun t102 p105 => Sub.refl _) (fun t102 p105 kc103 kb104 => (lb_set 6 nd (lx_add (lx_var 6 cp_it rfl) (fun p115 => lx_int)) (fun v_way_116 p117 => (lb_end v_way_116 (Sub.refl _))))) (fun t118 => (lb_set 7 nd (lx_call (ok_placed_cell fa) (hr.mono (by decide)) fa.g_placed_cell fa.F_placed_cell.kp fa.b_placed_cell (fun _ => (.cons cp_it (.cons cp_it (.cons cp_it .nil)))) (la_cons (lx_tup (la_cons lx_int (fun p119 => (la_cons lx_int (fun p120 => (la_cons (lx_var 6 cp_it rfl) (fun p121 => la_nil)))))) (eT3 eI eI eI) (fun a : Int × Int × Int × Unit => (a.1, a.2.1, a.2.2.1)) (fun a => [eI.enc a.1, eI.enc a.2.1, eI.enc a.2.2.1]) (fun _ => (.cons (.cons (.cons .nil)))) (fun _ => rfl)) (fun p122 => (la_cons lx_int (fun p123 => (la_cons lx_int (fun p124 => la_nil))))))) (fun v_here_126 p127 => (lb_ret (lx_tup (la_cons (lx_sub (lx_part part2_0 (lx_var 5 cp_it rfl)) (fun p128 => (lx_part part2_0 (lx_var 7 cp_it rfl)))) (fun p129 => (la_cons (lx_sub (lx_part part2_1 (lx_var 5 cp_it rfl)) (fun p130 => (lx_part part2_1 (lx_var 7 cp_it rfl)))) (fun p131 => (la_cons (lx_var 6 cp_it rfl) (fun p132 => la_nil)))))) (eT3 eI eI eI) (fun a : Int × Int × Int × Unit => (a.1, a.2.1, a.2.2.1)) (fun a => [eI.enc a.1, eI.enc a.2.1, eI.enc a.2.2.1]) (fun _ => (.cons (.cons (.cons .nil)))) (fun _ => rfl)) (fun _ => ()) (fun p => (.drop (.drop (.drop (.drop (.drop (.drop (.drop (.drop Sub.nil))))))))))))))))))))))))
    (by first | (unfold m_joined; dsimp only [id]; done) | (unfold m_joined; dsimp only [id]; rfl) | rfl)
abbrev n_covered : List Str := ["start", "end", "side", "low"]
theorem sc_covered : FnScope n_covered ["start", "end", "side"] (defScope s_covered) := ⟨rfl, rfl, rfl, by decide +kernel, rfl, by decide +kernel, by decide +kernel⟩
abbrev sp_covered (K : Fg) : Sp := spP K (fun a : (Int × Int) × (Int × Int) × Int × Unit => [.st none (Int × Int) (it (eT2 eI eI)) a.1, .st none (Int × Int) (it (eT2 eI eI)) a.2.1, .st none Int (it eI) a.2.2.1]) (it (eT4 eI eI eI eI)) (fun a => m_covered a.1 a.2.1 a.2.2.1)
set_option maxHeartbeats 0 in
theorem ok_covered (fa : Fa K mg) : FnOk P w K mg base CX0 1 fa.f_covered fa.fd_covered ["start", "end", "side"] (sp_covered K) := by
  refine fnP fa.F_covered sc_covered 1 rfl (fun _ => rfl) fun cdv A' outer s H E hr => ?_
  have nd := sc_covered.nd
  have hu := hr.units
  rintro ⟨a_start, a_end, a_side, _⟩
  exact lb_use (env := [.st none (Int × Int) (it (eT2 eI eI)) a_start, .st none (Int × Int) (it (eT2 eI eI)) a_end, .st none Int (it eI) a_side, .un])
    (lb_set 3 nd (lx_tup (la_cons (lx_min2 rfl fa.z_min (lx_part part2_0 (lx_var 0 cp_it rfl)) (fun p134 => (lx_part part2_0 (lx_var 1 cp_it rfl)))) (fun p135 => (la_cons (lx_min2 rfl fa.z_min (lx_part part2_1 (lx_var 0 cp_it rfl)) (fun p136 => (lx_part part2_1 (lx_var 1 cp_it rfl)))) (fun p137 => la_nil)))) (eT2 eI eI) (fun a : Int × Int × Unit => (a.1, a.2.1)) (fun a => [eI.enc a.1, eI.enc a.2.1]) (fun _ => (.cons (.cons .nil))) (fun _ => rfl)) (fun v_low_138 p139 => (lb_ret (lx_tup (la_cons (lx_part part2_0 (lx_var 3 cp_it rfl)) (fun p140 => (la_cons (lx_part part2_1 (lx_var 3 cp_it rfl)) (fun p141 => (la_cons (lx_add (lx_abs fa.z_abs (lx_sub (lx_part part2_0 (lx_var 1 cp_it rfl)) (fun p143 => (lx_part part2_0 (lx_var 0 cp_it rfl))))) (fun p144 => (lx_var 2 cp_it rfl))) (fun p145 => (la_cons (lx_add (lx_abs fa.z_abs (lx_sub (lx_part part2_1 (lx_var 1 cp_it rfl)) (fun p147 => (lx_part part2_1 (lx_var 0 cp_it rfl))))) (fun p148 => (lx_var 2 cp_it rfl))) (fun p149 => la_nil)))))))) (eT4 eI eI eI eI) (fun a : Int × Int × Int × Int × Unit => (a.1, a.2.1, a.2.2.1, a.2.2.2.1)) (fun a => [eI.enc a.1, eI.enc a.2.1, eI.enc a.2.2.1, eI.enc a.2.2.2.1]) (fun _ => (.cons (.cons (.cons (.cons .nil))))) (fun _ => rfl)) (fun _ => ()) (fun p => (.drop (.drop (.drop (.drop Sub.nil))))))))
    (by first | (unfold m_covered; dsimp only [id]; done) | (unfold m_covered; dsimp only [id]; rfl) | rfl)
abbrev n_cells_of : List Str := ["rectangle", "x", "y", "width", "height", "found", "column", "row"]
theorem sc_cells_of : FnScope n_cells_of ["rectangle"] (defScope s_cells_of) := ⟨rfl, rfl, rfl, by decide +kernel, rfl, by decide +kernel, by decide +kernel⟩
abbrev sp_cells_of (K : Fg) : Sp := spP K (fun a : (Int × Int × Int × Int) × Unit => [.st none (Int × Int × Int × Int) (it (eT4 eI eI eI eI)) a.1]) (it (eL (eT2 eI eI))) (fun a => m_cells_of a.1)
set_option maxHeartbeats 0 in
theorem ok_cells_of (fa : Fa K mg) : FnOk P w K mg base CX0 1 fa.f_cells_of fa.fd_cells_of ["rectangle"] (sp_cells_of K) := by
  refine fnP fa.F_cells_of sc_cells_of 7 rfl (fun _ => rfl) fun cdv A' outer s H E hr => ?_
  have nd := sc_cells_of.nd
  have hu := hr.units
  rintro ⟨a_rectangle, _⟩
  exact lb_use (env := [.st none (Int × Int × Int × Int) (it (eT4 eI eI eI eI)) a_rectangle, .un, .un, .un, .un, .un, .un, .un])
    (lb_asg (lx_var 0 cp_it rfl) (fun p151 => (lg_tup (E := (eT4 eI eI eI eI)) (lgs_cons (lg_name 1 nd) (fun _ => (lgs_cons (lg_name 2 nd) (fun _ => (lgs_cons (lg_name 3 nd) (fun _ => (lgs_cons (lg_name 4 nd) (fun _ => lgs_nil)))))))) (fun x => (x.1, x.2.1, x.2.2.1, x.2.2.2, ())) (fun a : Int × Int × Int × Int × Unit => [eI.enc (a.1), eI.enc (a.2.1), eI.enc (a.2.2.1), eI.enc (a.2.2.2.1)]) (fun _ => (.cons (.cons (.cons (.cons .nil))))) (fun _ => rfl) rfl (fun _ => rfl))) (fun x150 p151 => (lb_set 5 nd (lx_list la_nil (eT2 eI eI) (fun _ => []) (fun _ => .nil)) (fun v_found_152 p153 => (lb_for (envT := (fun t157 : (List (Int × Int)) => [.st none (Int × Int × Int × Int) (it (eT4 eI eI eI eI)) a_rectangle, .st none Int (it eI) x150.1, .st none Int (it eI) x150.2.1, .st none Int (it eI) x150.2.2.1, .st none Int (it eI) x150.2.2.2, .st none (List (Int × Int)) (ls (it (eT2 eI eI))) t157, .un, .un])) PassesOwn.never rfl (li_range2 (by rfl) fa.z_range (lx_var 1 cp_it rfl) (fun p154 => (lx_add (lx_var 1 cp_it rfl) (fun p155 => (lx_var 3 cp_it rfl))))) (fun p156 => v_found_152) (fun p156 => (Sub.refl _)) (fun t157 => (lg_name 6 nd)) (fun x158 t157 kc159 kb160 => (lb_ext 5 rfl lm_ow (lx_lc (envT := (fun t166 : Unit => [.st none (Int × Int × Int × Int) (it (eT4 eI eI eI eI)) a_rectangle, .st none Int (it eI) x150.1, .st none Int (it eI) x150.2.1, .st none Int (it eI) x150.2.2.1, .st none Int (it eI) x150.2.2.2, .st none (List (Int × Int)) (ls (it (eT2 eI eI))) t157, .st none Int (it eI) x158, .un])) rfl nd (blkOk_by (N := n_cells_of) (sc := defScope s_cells_of) (own := [("row", 7)]) (by decide +kernel)) (li_range2 (by rfl) fa.z_range (lx_var 2 cp_it rfl) (fun p163 => (lx_add (lx_var 2 cp_it rfl) (fun p164 => (lx_var 4 cp_it rfl))))) (fun p165 => ()) (fun p165 => (Sub.refl _)) (by intro t i s hm he; simp at hm; subst hm; (have e := Option.some.inj he; exact e.symm)) (fun _ _ _ _ _ t166 => (lg_name 7 nd)) (fun _ _ _ _ _ t166 x167 => ltl_nil) (fun _ _ _ _ _ t166 x167 p168 => (lx_tup (la_cons (lx_var 6 cp_it rfl) (fun p169 => (la_cons (lx_var 7 cp_it rfl) (fun p170 => la_nil)))) (eT2 eI eI) (fun a : Int × Int × Unit => (a.1, a.2.1)) (fun a => [eI.enc a.1, eI.enc a.2.1]) (fun _ => (.cons (.cons .nil))) (fun _ => rfl))) (fun t166 x167 p168 p171 => ()) (fun t166 x167 p168 p171 => by exact (.keep (.keep (.keep (.keep (.keep (.keep (.keep (.drop Sub.nil))))))))) (fun t166 x167 p168 => ()) (fun t166 x167 p168 => by exact (.keep (.keep (.keep (.keep (.keep (.keep (.keep (.drop Sub.nil)))))))))) (fun _ => rfl) (fun y162 p161 => (lb_end (t157 ++ y162) (.keep (.keep (.keep (.keep (.keep (.keep (.drop (.keep Sub.nil)))))))))))) (fun t177 => (lb_ret (lx_frz 5 (fz_ls fz_it) rfl) (fun _ => ()) (fun p => (.drop (.drop (.drop (.drop (.drop (.drop (.keep (.keep Sub.nil))))))))))))))))
    (by first | (unfold m_cells_of; dsimp only [id]; done) | (unfold m_cells_of; dsimp only [id]; rfl) | rfl)
abbrev n__law_draws : List Str := ["script"]
theorem sc__law_draws : FnScope n__law_draws ["script"] (defScope s__law_draws) := ⟨rfl, rfl, rfl, by decide +kernel, rfl, by decide +kernel, by decide +kernel⟩
abbrev sp__law_draws (K : Fg) : Sp := spP K (fun a : List Int × Unit => [.st none (List Int) scr a.1]) (lsR (eT4 (eL eI) eI eI eI)) (fun a => m__law_draws a.1)
set_option maxHeartbeats 0 in
theorem ok__law_draws (fa : Fa K mg) : FnOk P w K mg base CX0 1 fa.f__law_draws fa.fd__law_draws ["script"] (sp__law_draws K) := by
  refine fnP fa.F__law_draws sc__law_draws 0 rfl (fun _ => rfl) fun cdv A' outer s H E hr => ?_
  have nd := sc__law_draws.nd
  have hu := hr.units
  rintro ⟨a_script, _⟩
  exact lb_use (env := [.st none (List Int) scr a_script])
    (lb_ret (lx_row (la_cons (lx_sh (fz_ls fz_it) (lx_listof lv_scr fa.z_list (lo_of (lx_var 0 cp_scr rfl)) (fun _ => trivial))) (fun p179 => (la_cons lx_int (fun p180 => (la_cons lx_int (fun p181 => (la_cons lx_int (fun p182 => la_nil)))))))) (eT4 (eL eI) eI eI eI) (fun a : (List Int) × Int × Int × Int × Unit => (a.1, a.2.1, a.2.2.1, a.2.2.2.1)) (fun a => [(eL eI).enc a.1, eI.enc a.2.1, eI.enc a.2.2.1, eI.enc a.2.2.2.1]) (fun _ => (.cons (.cons (.cons (.cons .nil))))) (fun _ => rfl)) (fun _ => ()) (fun p => (.drop Sub.nil)))
    (by first | (unfold m__law_draws; dsimp only [id]; done) | (unfold m__law_draws; dsimp only [id]; rfl) | rfl)
abbrev n__law_draw : List Str := ["draws", "limit", "cell", "value"]
theorem sc__law_draw : FnScope n__law_draw ["draws", "limit"] (defScope s__law_draw) := ⟨rfl, rfl, rfl, by decide +kernel, rfl, by decide +kernel, by decide +kernel⟩
abbrev sp__law_draw (K : Fg) : Sp := spI K (lsR (eT4 (eL eI) eI eI eI)) (fun a : Int × Unit => [.st none Int (it eI) a.1]) (it eI) (fun t0 a => m__law_draw t0 a.1)
set_option maxHeartbeats 0 in
theorem ok__law_draw (fa : Fa K mg) : FnOk P w K mg base CX0 1 fa.f__law_draw fa.fd__law_draw ["draws", "limit"] (sp__law_draw K) := by
  refine fnI fa.F__law_draw sc__law_draw 2 rfl (fun _ => rfl) fun cdv A' outer s H E hr => ?_
  have nd := sc__law_draw.nd
  have hu := hr.units
  rintro v0 t0 ⟨a_limit, _⟩
  exact lb_use (env := [.st (some v0) ((List Int) × Int × Int × Int) (lsR (eT4 (eL eI) eI eI eI)) t0, .st none Int (it eI) a_limit, .un, .un])
    (lb_if (env1 := (fun j187 : ((List Int) × Int × Int × Int) => [.st (some v0) ((List Int) × Int × Int × Int) (lsR (eT4 (eL eI) eI eI eI)) j187, .st none Int (it eI) a_limit, .un, .un])) (lt_w (lw_and (lt_cmp (lc_eqI (lx_rowAt 0 part4_2 rfl) (fun p183 => lx_int)) (nomark _)) (fun p184 => (lw_and1 (lt_cmp (lc_lt (lx_rowAt 0 part4_1 rfl) (fun p185 => (lx_len lm_sh.w fa.z_len (lo_of (lx_rowAt 0 part4_0 rfl)) (fun _ => trivial)))) (nomark _)))) (fun p184 _ => Sub.refl _))) (fun p186 => (lb_set 2 nd (lx_ix lm_sh.w (lo_of (lx_rowAt 0 part4_0 rfl)) (fun p189 => (lx_rowAt 0 part4_1 rfl)) (fun _ _ => trivial)) (fun v_cell_191 p192 => (lb_setrow 0 parts4_1 (lx_add (lx_rowAt 0 part4_1 rfl) (fun p193 => lx_int)) (fun _ => rfl) (fun y194 p195 => (lb_if (env1 := (fun j201 : ((List Int) × Int × Int × Int) => [.st (some v0) ((List Int) × Int × Int × Int) (lsR (eT4 (eL eI) eI eI eI)) j201, .st none Int (it eI) a_limit, .st none Int (it eI) v_cell_191, .un])) (lt_cmp (lc_ge (lx_var 2 cp_it rfl) (fun p198 => (lx_pow lx_int (fun p199 => lx_int)))) (nomark _)) (fun p200 => (lb_setrow 0 parts4_2 (lx_var 2 cp_it rfl) (fun _ => rfl) (fun y203 p204 => (lb_end ((t0.1, y194, t0.2.2.1, t0.2.2.2).1, (t0.1, y194, t0.2.2.1, t0.2.2.2).2.1, y203, (t0.1, y194, t0.2.2.1, t0.2.2.2).2.2.2) (Sub.refl _))))) (fun p200 => (lb_end (t0.1, y194, t0.2.2.1, t0.2.2.2) (Sub.refl _))) (fun j201 => (lb_setrow 0 parts4_3 (lx_mod (lx_int1 fa.z_int (lx_add (lx_add (lx_mul (lx_rowAt 0 part4_3 rfl) (fun p211 => lx_int)) (fun p212 => (lx_var 2 cp_it rfl))) (fun p213 => lx_int))) (fun p214 => lx_int)) (fun _ => rfl) (fun y215 p216 => (lb_end (j201.1, j201.2.1, j201.2.2.1, y215) (.keep (.keep (.drop (.keep Sub.nil)))))))))))))) (fun p186 => (lb_end t0 (Sub.refl _))) (fun j187 => (lb_ifr (lt_cmp (lc_gt (lx_rowAt 0 part4_2 rfl) (fun p219 => lx_int)) (nomark _)) (fun p220 => (lb_set 3 nd (lx_mod (lx_int1 fa.z_int (lx_rowAt 0 part4_2 rfl)) (fun p221 => (lx_var 1 cp_it rfl))) (fun v_value_222 p223 => (lb_setrow 0 parts4_2 (lx_fdiv (lx_rowAt 0 part4_2 rfl) (fun p224 => (lx_var 1 cp_it rfl))) (fun _ => rfl) (fun y225 p226 => (lb_ret (lx_var 3 cp_it rfl) (fun p => (j187.1, j187.2.1, y225, j187.2.2.2)) (fun p => (.keep (.drop (.keep (.drop Sub.nil))))))))))) (fun p220 => (lb_setrow 0 parts4_3 (lx_mod (lx_int1 fa.z_int (lx_add (lx_mul (lx_rowAt 0 part4_3 rfl) (fun p230 => lx_int)) (fun p231 => lx_int))) (fun p232 => lx_int)) (fun _ => rfl) (fun y233 p234 => (lb_ret (lx_mod (lx_int1 fa.z_int (lx_fdiv (lx_rowAt 0 part4_3 rfl) (fun p237 => lx_int))) (fun p238 => (lx_var 1 cp_it rfl))) (fun p => (j187.1, j187.2.1, j187.2.2.1, y233)) (fun p => (.keep (.drop (.keep (.keep Sub.nil))))))))))))
    (by first | (unfold m__law_draw; dsimp only [id]; done) | (unfold m__law_draw; dsimp only [id]; rfl) | rfl)
abbrev n__law_put : List Str := ["place", "cell", "x", "y", "k"]
theorem sc__law_put : FnScope n__law_put ["place", "cell"] (defScope s__law_put) := ⟨rfl, rfl, rfl, by decide +kernel, rfl, by decide +kernel, by decide +kernel⟩
abbrev sp__law_put (K : Fg) : Sp := spP K (fun a : (Int × Int × Int) × (Int × Int) × Unit => [.st none (Int × Int × Int) (it (eT3 eI eI eI)) a.1, .st none (Int × Int) (it (eT2 eI eI)) a.2.1]) (it (eT2 eI eI)) (fun a => m__law_put a.1 a.2.1)
set_option maxHeartbeats 0 in
theorem ok__law_put (fa : Fa K mg) : FnOk P w K mg base CX0 1 fa.f__law_put fa.fd__law_put ["place", "cell"] (sp__law_put K) := by
  refine fnP fa.F__law_put sc__law_put 3 rfl (fun _ => rfl) fun cdv A' outer s H E hr => ?_
  have nd := sc__law_put.nd
  have hu := hr.units
  rintro ⟨a_place, a_cell, _⟩
  exact lb_use (env := [.st none (Int × Int × Int) (it (eT3 eI eI eI)) a_place, .st none (Int × Int) (it (eT2 eI eI)) a_cell, .un, .un, .un])
    (lb_asg (lx_var 1 cp_it rfl) (fun p241 => (lg_tup (E := (eT2 eI eI)) (lgs_cons (lg_name 2 nd) (fun _ => (lgs_cons (lg_name 3 nd) (fun _ => lgs_nil)))) (fun x => (x.1, x.2, ())) (fun a : Int × Int × Unit => [eI.enc (a.1), eI.enc (a.2.1)]) (fun _ => (.cons (.cons .nil))) (fun _ => rfl) rfl (fun _ => rfl))) (fun x240 p241 => (lb_if (env1 := (fun j244 : Int => [.st none (Int × Int × Int) (it (eT3 eI eI eI)) a_place, .st none (Int × Int) (it (eT2 eI eI)) a_cell, .st none Int (it eI) j244, .st none Int (it eI) x240.2, .un])) (lt_cmp (lc_ge (lx_part part3_2 (lx_var 0 cp_it rfl)) (fun p242 => lx_int)) (nomark _)) (fun p243 => (lb_set 2 nd (lx_sub (lx_neg lx_int) (fun p246 => (lx_var 2 cp_it rfl))) (fun v_x_247 p248 => (lb_end v_x_247 (Sub.refl _))))) (fun p243 => (lb_end x240.1 (Sub.refl _))) (fun j244 => (lb_for (envT := (fun t251 : (Int × Int) => [.st none (Int × Int × Int) (it (eT3 eI eI eI)) a_place, .st none (Int × Int) (it (eT2 eI eI)) a_cell, .st none Int (it eI) t251.1, .st none Int (it eI) t251.2, .un])) PassesOwn.never rfl (li_range1 (by rfl) fa.z_range (lx_mod (lx_part part3_2 (lx_var 0 cp_it rfl)) (fun p249 => lx_int))) (fun p250 => (j244, x240.2)) (fun p250 => (Sub.refl _)) (fun t251 => (lg_name 4 nd)) (fun x252 t251 kc253 kb254 => (lb_par 2 3 nd rfl (la_cons (lx_sub (lx_neg lx_int) (fun p255 => (lx_var 3 cp_it rfl))) (fun p256 => (la_cons (lx_var 2 cp_it rfl) (fun p257 => la_nil)))) (fun x259 y260 p258 => (lb_end (x259, y260) (.keep (.keep (.keep (.keep (.drop Sub.nil))))))))) (fun t261 => (lb_ret (lx_tup (la_cons (lx_add (lx_var 2 cp_it rfl) (fun p262 => (lx_part part3_0 (lx_var 0 cp_it rfl)))) (fun p263 => (la_cons (lx_add (lx_var 3 cp_it rfl) (fun p264 => (lx_part part3_1 (lx_var 0 cp_it rfl)))) (fun p265 => la_nil)))) (eT2 eI eI) (fun a : Int × Int × Unit => (a.1, a.2.1)) (fun a => [eI.enc a.1, eI.enc a.2.1]) (fun _ => (.cons (.cons .nil))) (fun _ => rfl)) (fun _ => ()) (fun p => (.drop (.drop (.drop (.drop (.keep Sub.nil)))))))))))))
    (by first | (unfold m__law_put; dsimp only [id]; done) | (unfold m__law_put; dsimp only [id]; rfl) | rfl)
abbrev n__law_place : List Str := ["draws", "far"]
theorem sc__law_place : FnScope n__law_place ["draws"] (defScope s__law_place) := ⟨rfl, rfl, rfl, by decide +kernel, rfl, by decide +kernel, by decide +kernel⟩
abbrev sp__law_place (K : Fg) : Sp := spI K (lsR (eT4 (eL eI) eI eI eI)) (fun a : Unit => []) (it (eT3 eI eI eI)) (fun t0 a => m__law_place t0 )
set_option maxHeartbeats 0 in
theorem ok__law_place (fa : Fa K mg) : FnOk P w K mg base CX0 2 fa.f__law_place fa.fd__law_place ["draws"] (sp__law_place K) := by
  refine fnI fa.F__law_place sc__law_place 1 rfl (fun _ => rfl) fun cdv A' outer s H E hr => ?_
  have nd := sc__law_place.nd
  have hu := hr.units
  rintro v0 t0 ⟨_⟩
  exact lb_use (env := [.st (some v0) ((List Int) × Int × Int × Int) (lsR (eT4 (eL eI) eI eI eI)) t0, .un])
    (lb_set 1 nd (lx_ix lm_ow.w (lo_of (lx_list (la_cons lx_int (fun p267 => (la_cons lx_int (fun p268 => (la_cons lx_int (fun p269 => la_nil)))))) eI (fun a : Int × Int × Int × Unit => [a.1, a.2.1, a.2.2.1]) (fun _ => (.cons (.cons (.cons .nil)))))) (fun p270 => (lx_callI 0 (ok__law_draw fa) (hr.mono (by decide)) fa.g__law_draw fa.F__law_draw.kp fa.b__law_draw (fun _ => (.cons cp_it .nil)) rfl (la_cons lx_int (fun p271 => la_nil)) (fun _ => rfl))) (fun _ _ => trivial)) (fun v_far_274 p275 => (lb_ret (lx_tup (la_cons (lx_sub (lx_callI 0 (ok__law_draw fa) (hr.mono (by decide)) fa.g__law_draw fa.F__law_draw.kp fa.b__law_draw (fun _ => (.cons cp_it .nil)) rfl (la_cons (lx_mul lx_int (fun p276 => (lx_var 1 cp_it rfl))) (fun p277 => la_nil)) (fun _ => rfl)) (fun p279 => (lx_var 1 cp_it rfl))) (fun p280 => (la_cons (lx_sub (lx_callI 0 (ok__law_draw fa) (hr.mono (by decide)) fa.g__law_draw fa.F__law_draw.kp fa.b__law_draw (fun _ => (.cons cp_it .nil)) rfl (la_cons (lx_mul lx_int (fun p281 => (lx_var 1 cp_it rfl))) (fun p282 => la_nil)) (fun _ => rfl)) (fun p284 => (lx_var 1 cp_it rfl))) (fun p285 => (la_cons (lx_callI 0 (ok__law_draw fa) (hr.mono (by decide)) fa.g__law_draw fa.F__law_draw.kp fa.b__law_draw (fun _ => (.cons cp_it .nil)) rfl (la_cons lx_int (fun p286 => la_nil)) (fun _ => rfl)) (fun p288 => la_nil)))))) (eT3 eI eI eI) (fun a : Int × Int × Int × Unit => (a.1, a.2.1, a.2.2.1)) (fun a => [eI.enc a.1, eI.enc a.2.1, eI.enc a.2.2.1]) (fun _ => (.cons (.cons (.cons .nil)))) (fun _ => rfl)) (fun p => p.2.2.1.2) (fun p => (.keep (.drop Sub.nil))))))
    (by first | (unfold m__law_place; dsimp only [id]; done) | (unfold m__law_place; dsimp only [id]; rfl) | rfl)
abbrev n_law : List Str := ["script", "draws", "outer", "inner", "both", "k", "cell", "due", "side", "cells", "column", "row", "way", "end", "told"]
theorem sc_law : FnScope n_law ["script"] (defScope s_law) := ⟨rfl, rfl, rfl, by decide +kernel, rfl, by decide +kernel, by decide +kernel⟩
abbrev sp_law (K : Fg) (fu : Nat) : Sp := spP K (fun a : List Int × Unit => [.st none (List Int) scr a.1]) (it eB) (fun a => m_law fu a.1)
set_option maxHeartbeats 0 in
theorem ok_law (fa : Fa K mg) (fu : Nat) : FnOk P w K mg base CX0 5 fa.f_law fa.fd_law ["script"] (sp_law K fu) := by
  refine fnP fa.F_law sc_law 14 rfl (fun _ => rfl) fun cdv A' outer s H E hr => ?_
  have nd := sc_law.nd
  have hu := hr.units
  rintro ⟨a_script, _⟩
  exact lb_use (env := [.st none (List Int) scr a_script, .un, .un, .un, .un, .un, .un, .un, .un, .un, .un, .un, .un, .un, .un])
    (lb_set 1 nd (lx_call (ok__law_draws fa) (hr.mono (by decide)) fa.g__law_draws fa.F__law_draws.kp fa.b__law_draws (fun _ => (.cons cp_scr .nil)) (la_cons (lx_var 0 cp_scr rfl) (fun p289 => la_nil))) (fun v_draws_291 p292 => (lb_set 2 nd (lx_callI 1 (ok__law_place fa) (hr.mono (by decide)) fa.g__law_place fa.F__law_place.kp fa.b__law_place (fun _ => .nil) rfl la_nil (fun _ => rfl)) (fun v_outer_294 p295 => (lb_set 3 nd (lx_callI 1 (ok__law_place fa) (hr.mono (by decide)) fa.g__law_place fa.F__law_place.kp fa.b__law_place (fun _ => .nil) rfl la_nil (fun _ => rfl)) (fun v_inner_297 p298 => (lb_set 4 nd (lx_call (ok_joined fa fu) (hr.mono (by decide)) fa.g_joined fa.F_joined.kp fa.b_joined (fun _ => (.cons cp_it (.cons cp_it .nil))) (la_cons (lx_var 2 cp_it rfl) (fun p299 => (la_cons (lx_var 3 cp_it rfl) (fun p300 => la_nil))))) (fun v_both_302 p303 => (lb_ifr (lt_w (lw_or (lt_not (lt_val (lx_isT (fun _ => ⟨_, rfl⟩) fa.z_isinstance fa.z_tuple (lx_var 4 cp_it rfl)))) (fun p304 => (lw_or1 (lt_cmp (lc_neI (lx_lenT (n := 3) (fun _ => ⟨_, rfl, rfl⟩) fa.z_len (lx_var 4 cp_it rfl)) (fun p305 => lx_int)) (nomark _)))) (fun p304 _ => Sub.refl _))) (fun p306 => (lb_ret lx_bl (fun _ => ()) (fun p => (.drop (.drop (.drop (.drop (.drop (.keep (.keep (.keep (.keep (.keep (.keep (.keep (.keep (.keep (.keep Sub.nil)))))))))))))))))) (fun p306 => (lb_for (envT := (fun t308 : ((List Int) × Int × Int × Int) => [.st none (List Int) scr a_script, .st none ((List Int) × Int × Int × Int) (lsR (eT4 (eL eI) eI eI eI)) t308, .st none (Int × Int × Int) (it (eT3 eI eI eI)) v_outer_294, .st none (Int × Int × Int) (it (eT3 eI eI eI)) v_inner_297, .st none (Int × Int × Int) (it (eT3 eI eI eI)) v_both_302, .un, .un, .un, .un, .un, .un, .un, .un, .un, .un])) PassesOwn.never rfl (li_range1 (by rfl) fa.z_range lx_int) (fun p307 => p298.2) (fun p307 => (Sub.refl _)) (fun t308 => (lg_name 5 nd)) (fun x309 t308 kc310 kb311 => (lb_set 6 nd (lx_tup (la_cons (lx_sub (lx_callI 1 (ok__law_draw fa) (hr.mono (by decide)) fa.g__law_draw fa.F__law_draw.kp fa.b__law_draw (fun _ => (.cons cp_it .nil)) rfl (la_cons lx_int (fun p312 => la_nil)) (fun _ => rfl)) (fun p314 => lx_int)) (fun p315 => (la_cons (lx_sub (lx_callI 1 (ok__law_draw fa) (hr.mono (by decide)) fa.g__law_draw fa.F__law_draw.kp fa.b__law_draw (fun _ => (.cons cp_it .nil)) rfl (la_cons lx_int (fun p316 => la_nil)) (fun _ => rfl)) (fun p318 => lx_int)) (fun p319 => la_nil)))) (eT2 eI eI) (fun a : Int × Int × Unit => (a.1, a.2.1)) (fun a => [eI.enc a.1, eI.enc a.2.1]) (fun _ => (.cons (.cons .nil))) (fun _ => rfl)) (fun v_cell_320 p321 => (lb_set 7 nd (lx_call (ok__law_put fa) (hr.mono (by decide)) fa.g__law_put fa.F__law_put.kp fa.b__law_put (fun _ => (.cons cp_it (.cons cp_it .nil))) (la_cons (lx_var 2 cp_it rfl) (fun p322 => (la_cons (lx_call (ok__law_put fa) (hr.mono (by decide)) fa.g__law_put fa.F__law_put.kp fa.b__law_put (fun _ => (.cons cp_it (.cons cp_it .nil))) (la_cons (lx_var 3 cp_it rfl) (fun p323 => (la_cons (lx_var 6 cp_it rfl) (fun p324 => la_nil))))) (fun p326 => la_nil))))) (fun v_due_328 p329 => (lb_ifr (lt_w (lw_or (lt_cmp (lc_neT hu dv_it dv_it (dtT2 dtI dtI) (evT2 evI evI) (lo_of (lx_call (ok_placed_cell fa) (hr.mono (by decide)) fa.g_placed_cell fa.F_placed_cell.kp fa.b_placed_cell (fun _ => (.cons cp_it (.cons cp_it (.cons cp_it .nil)))) (la_cons (lx_var 2 cp_it rfl) (fun p330 => (la_cons (lx_part part2_0 (lx_var 6 cp_it rfl)) (fun p331 => (la_cons (lx_part part2_1 (lx_var 6 cp_it rfl)) (fun p332 => la_nil)))))))) (fun p334 => (lo_of (lx_call (ok__law_put fa) (hr.mono (by decide)) fa.g__law_put fa.F__law_put.kp fa.b__law_put (fun _ => (.cons cp_it (.cons cp_it .nil))) (la_cons (lx_var 2 cp_it rfl) (fun p335 => (la_cons (lx_var 6 cp_it rfl) (fun p336 => la_nil))))))) (fun _ _ => trivial) (fun _ _ => trivial)) (nomark _)) (fun p338 => (lw_or1 (lt_cmp (lc_neT hu dv_it dv_it (dtT2 dtI dtI) (evT2 evI evI) (lo_of (lx_call (ok_placed_cell fa) (hr.mono (by decide)) fa.g_placed_cell fa.F_placed_cell.kp fa.b_placed_cell (fun _ => (.cons cp_it (.cons cp_it (.cons cp_it .nil)))) (la_cons (lx_var 4 cp_it rfl) (fun p339 => (la_cons (lx_part part2_0 (lx_var 6 cp_it rfl)) (fun p340 => (la_cons (lx_part part2_1 (lx_var 6 cp_it rfl)) (fun p341 => la_nil)))))))) (fun p343 => (lo_of (lx_var 7 cp_it rfl))) (fun _ _ => trivial) (fun _ _ => trivial)) (nomark _)))) (fun p338 _ => Sub.refl _))) (fun p344 => (lb_ret lx_bl (fun _ => ()) (fun p => (.drop (.drop (.drop (.drop (.drop (.drop (.drop (.drop (.keep (.keep (.keep (.keep (.keep (.keep (.keep Sub.nil)))))))))))))))))) (fun p344 => (lb_set 8 nd (lx_add lx_int (fun p345 => (lx_callI 1 (ok__law_draw fa) (hr.mono (by decide)) fa.g__law_draw fa.F__law_draw.kp fa.b__law_draw (fun _ => (.cons cp_it .nil)) rfl (la_cons lx_int (fun p346 => la_nil)) (fun _ => rfl)))) (fun v_side_348 p349 => (lb_set 9 nd (lx_list la_nil (eT2 eI eI) (fun _ => []) (fun _ => .nil)) (fun v_cells_350 p351 => (lb_for (envT := (fun t353 : (List (Int × Int)) => [.st none (List Int) scr a_script, .st none ((List Int) × Int × Int × Int) (lsR (eT4 (eL eI) eI eI eI)) p349.2.2, .st none (Int × Int × Int) (it (eT3 eI eI eI)) v_outer_294, .st none (Int × Int × Int) (it (eT3 eI eI eI)) v_inner_297, .st none (Int × Int × Int) (it (eT3 eI eI eI)) v_both_302, .st none Int (it eI) x309, .st none (Int × Int) (it (eT2 eI eI)) v_cell_320, .st none (Int × Int) (it (eT2 eI eI)) v_due_328, .st none Int (it eI) v_side_348, .st none (List (Int × Int)) (ls (it (eT2 eI eI))) t353, .un, .un, .un, .un, .un])) PassesOwn.never rfl (li_range1 (by rfl) fa.z_range (lx_var 8 cp_it rfl)) (fun p352 => v_cells_350) (fun p352 => (Sub.refl _)) (fun t353 => (lg_name 10 nd)) (fun x354 t353 kc355 kb356 => (lb_set 9 nd (lx_cat lm_ow lm_ow (lo_var 9 rfl) (fun p357 => (lo_of (lx_lc (envT := (fun t359 : Unit => [.st none (List Int) scr a_script, .st none ((List Int) × Int × Int × Int) (lsR (eT4 (eL eI) eI eI eI)) p349.2.2, .st none (Int × Int × Int) (it (eT3 eI eI eI)) v_outer_294, .st none (Int × Int × Int) (it (eT3 eI eI eI)) v_inner_297, .st none (Int × Int × Int) (it (eT3 eI eI eI)) v_both_302, .st none Int (it eI) x309, .st none (Int × Int) (it (eT2 eI eI)) v_cell_320, .st none (Int × Int) (it (eT2 eI eI)) v_due_328, .st none Int (it eI) v_side_348, .st none (List (Int × Int)) (ls (it (eT2 eI eI))) t353, .st none Int (it eI) x354, .un, .un, .un, .un])) rfl nd (blkOk_by (N := n_law) (sc := defScope s_law) (own := [("row", 11)]) (by decide +kernel)) (li_range1 (by rfl) fa.z_range (lx_var 8 cp_it rfl)) (fun p358 => ()) (fun p358 => (Sub.refl _)) (by intro t i s hm he; simp at hm; subst hm; (have e := Option.some.inj he; exact e.symm)) (fun _ _ _ _ _ t359 => (lg_name 11 nd)) (fun _ _ _ _ _ t359 x360 => ltl_nil) (fun _ _ _ _ _ t359 x360 p361 => (lx_call (ok__law_put fa) (hr.mono (by decide)) fa.g__law_put fa.F__law_put.kp fa.b__law_put (fun _ => (.cons cp_it (.cons cp_it .nil))) (la_cons (lx_var 2 cp_it rfl) (fun p362 => (la_cons (lx_tup (la_cons (lx_add (lx_part part2_0 (lx_var 6 cp_it rfl)) (fun p363 => (lx_var 10 cp_it rfl))) (fun p364 => (la_cons (lx_add (lx_part part2_1 (lx_var 6 cp_it rfl)) (fun p365 => (lx_var 11 cp_it rfl))) (fun p366 => la_nil)))) (eT2 eI eI) (fun a : Int × Int × Unit => (a.1, a.2.1)) (fun a => [eI.enc a.1, eI.enc a.2.1]) (fun _ => (.cons (.cons .nil))) (fun _ => rfl)) (fun p367 => la_nil)))))) (fun t359 x360 p361 p369 => ()) (fun t359 x360 p361 p369 => by exact (.keep (.keep (.keep (.keep (.keep (.keep (.keep (.keep (.keep (.keep (.keep (.drop (.keep (.keep (.keep Sub.nil)))))))))))))))) (fun t359 x360 p361 => ()) (fun t359 x360 p361 => by exact (.keep (.keep (.keep (.keep (.keep (.keep (.keep (.keep (.keep (.keep (.keep (.drop (.keep (.keep (.keep Sub.nil))))))))))))))))))) (fun _ _ => rfl) (fun _ _ => trivial)) (fun v_cells_375 p376 => (lb_end v_cells_375 (.keep (.keep (.keep (.keep (.keep (.keep (.keep (.keep (.keep (.keep (.drop (.keep (.keep (.keep (.keep Sub.nil))))))))))))))))))) (fun t377 => (lb_ifr (lt_cmp (lc_neT hu dv_it dv_it (dtT2 dtI dtI) (evT2 evI evI) (lo_of (lx_call (ok_placed_anchor fa) (hr.mono (by decide)) fa.g_placed_anchor fa.F_placed_anchor.kp fa.b_placed_anchor (fun _ => (.cons cp_it (.cons cp_it (.cons cp_it (.cons cp_it .nil))))) (la_cons (lx_var 2 cp_it rfl) (fun p378 => (la_cons (lx_part part2_0 (lx_var 6 cp_it rfl)) (fun p379 => (la_cons (lx_part part2_1 (lx_var 6 cp_it rfl)) (fun p380 => (la_cons (lx_var 8 cp_it rfl) (fun p381 => la_nil)))))))))) (fun p383 => (lo_of (lx_minD rfl hu (odT2 evI odI odI) (dtT2 dtI dtI) lm_ow.w fa.z_min (lo_var 9 rfl) (fun _ => rfl)))) (fun _ _ => trivial) (fun _ _ => trivial)) (nomark _)) (fun p385 => (lb_ret lx_bl (fun _ => ()) (fun p => (.drop (.drop (.drop (.drop (.drop (.drop (.drop (.drop (.drop (.drop (.keep (.keep (.keep (.keep (.keep Sub.nil)))))))))))))))))) (fun p385 => (lb_set 12 nd (lx_sub (lx_callI 1 (ok__law_draw fa) (hr.mono (by decide)) fa.g__law_draw fa.F__law_draw.kp fa.b__law_draw (fun _ => (.cons cp_it .nil)) rfl (la_cons lx_int (fun p386 => la_nil)) (fun _ => rfl)) (fun p388 => lx_int)) (fun v_way_389 p390 => (lb_set 13 nd (lx_if (lt_cmp (lc_eqI (lx_callI 1 (ok__law_draw fa) (hr.mono (by decide)) fa.g__law_draw fa.F__law_draw.kp fa.b__law_draw (fun _ => (.cons cp_it .nil)) rfl (la_cons lx_int (fun p391 => la_nil)) (fun _ => rfl)) (fun p393 => lx_int)) (nomark _)) (fun p394 => (lx_tup (la_cons (lx_add (lx_part part2_0 (lx_var 6 cp_it rfl)) (fun p395 => (lx_var 12 cp_it rfl))) (fun p396 => (la_cons (lx_part part2_1 (lx_var 6 cp_it rfl)) (fun p397 => la_nil)))) (eT2 eI eI) (fun a : Int × Int × Unit => (a.1, a.2.1)) (fun a => [eI.enc a.1, eI.enc a.2.1]) (fun _ => (.cons (.cons .nil))) (fun _ => rfl))) (fun p394 => (lx_tup (la_cons (lx_part part2_0 (lx_var 6 cp_it rfl)) (fun p398 => (la_cons (lx_add (lx_part part2_1 (lx_var 6 cp_it rfl)) (fun p399 => (lx_var 12 cp_it rfl))) (fun p400 => la_nil)))) (eT2 eI eI) (fun a : Int × Int × Unit => (a.1, a.2.1)) (fun a => [eI.enc a.1, eI.enc a.2.1]) (fun _ => (.cons (.cons .nil))) (fun _ => rfl))) (fun p394 _ => Sub.refl _) (fun p394 _ => Sub.refl _)) (fun v_end_401 p402 => (lb_set 7 nd (lx_list la_nil (eT2 eI eI) (fun _ => []) (fun _ => .nil)) (fun v_due_403 p404 => (lb_for (envT := (fun t411 : (List (Int × Int)) => [.st none (List Int) scr a_script, .st none ((List Int) × Int × Int × Int) (lsR (eT4 (eL eI) eI eI eI)) p402.1.2, .st none (Int × Int × Int) (it (eT3 eI eI eI)) v_outer_294, .st none (Int × Int × Int) (it (eT3 eI eI eI)) v_inner_297, .st none (Int × Int × Int) (it (eT3 eI eI eI)) v_both_302, .st none Int (it eI) x309, .st none (Int × Int) (it (eT2 eI eI)) v_cell_320, .st none (List (Int × Int)) (ls (it (eT2 eI eI))) t411, .st none Int (it eI) v_side_348, .st none (List (Int × Int)) (ls (it (eT2 eI eI))) t377, .un, .un, .st none Int (it eI) v_way_389, .st none (Int × Int) (it (eT2 eI eI)) v_end_401, .un])) PassesOwn.never rfl (li_range2 (by rfl) fa.z_range (lx_min2 rfl fa.z_min (lx_part part2_0 (lx_var 6 cp_it rfl)) (fun p405 => (lx_part part2_0 (lx_var 13 cp_it rfl)))) (fun p406 => (lx_add (lx_max2 rfl fa.z_max (lx_part part2_0 (lx_var 6 cp_it rfl)) (fun p408 => (lx_part part2_0 (lx_var 13 cp_it rfl)))) (fun p409 => (lx_var 8 cp_it rfl))))) (fun p410 => v_due_403) (fun p410 => (Sub.refl _)) (fun t411 => (lg_name 10 nd)) (fun x412 t411 kc413 kb414 => (lb_set 7 nd (lx_cat lm_ow lm_ow (lo_var 7 rfl) (fun p415 => (lo_of (lx_lc (envT := (fun t422 : Unit => [.st none (List Int) scr a_script, .st none ((List Int) × Int × Int × Int) (lsR (eT4 (eL eI) eI eI eI)) p402.1.2, .st none (Int × Int × Int) (it (eT3 eI eI eI)) v_outer_294, .st none (Int × Int × Int) (it (eT3 eI eI eI)) v_inner_297, .st none (Int × Int × Int) (it (eT3 eI eI eI)) v_both_302, .st none Int (it eI) x309, .st none (Int × Int) (it (eT2 eI eI)) v_cell_320, .st none (List (Int × Int)) (ls (it (eT2 eI eI))) t411, .st none Int (it eI) v_side_348, .st none (List (Int × Int)) (ls (it (eT2 eI eI))) t377, .st none Int (it eI) x412, .un, .st none Int (it eI) v_way_389, .st none (Int × Int) (it (eT2 eI eI)) v_end_401, .un])) rfl nd (blkOk_by (N := n_law) (sc := defScope s_law) (own := [("row", 11)]) (by decide +kernel)) (li_range2 (by rfl) fa.z_range (lx_min2 rfl fa.z_min (lx_part part2_1 (lx_var 6 cp_it rfl)) (fun p416 => (lx_part part2_1 (lx_var 13 cp_it rfl)))) (fun p417 => (lx_add (lx_max2 rfl fa.z_max (lx_part part2_1 (lx_var 6 cp_it rfl)) (fun p419 => (lx_part part2_1 (lx_var 13 cp_it rfl)))) (fun p420 => (lx_var 8 cp_it rfl))))) (fun p421 => ()) (fun p421 => (Sub.refl _)) (by intro t i s hm he; simp at hm; subst hm; (have e := Option.some.inj he; exact e.symm)) (fun _ _ _ _ _ t422 => (lg_name 11 nd)) (fun _ _ _ _ _ t422 x423 => ltl_nil) (fun _ _ _ _ _ t422 x423 p424 => (lx_tup (la_cons (lx_var 10 cp_it rfl) (fun p425 => (la_cons (lx_var 11 cp_it rfl) (fun p426 => la_nil)))) (eT2 eI eI) (fun a : Int × Int × Unit => (a.1, a.2.1)) (fun a => [eI.enc a.1, eI.enc a.2.1]) (fun _ => (.cons (.cons .nil))) (fun _ => rfl))) (fun t422 x423 p424 p427 => ()) (fun t422 x423 p424 p427 => by exact (.keep (.keep (.keep (.keep (.keep (.keep (.keep (.keep (.keep (.keep (.keep (.drop (.keep (.keep (.keep Sub.nil)))))))))))))))) (fun t422 x423 p424 => ()) (fun t422 x423 p424 => by exact (.keep (.keep (.keep (.keep (.keep (.keep (.keep (.keep (.keep (.keep (.keep (.drop (.keep (.keep (.keep Sub.nil))))))))))))))))))) (fun _ _ => rfl) (fun _ _ => trivial)) (fun v_due_433 p434 => (lb_end v_due_433 (.keep (.keep (.keep (.keep (.keep (.keep (.keep (.keep (.keep (.keep (.drop (.keep (.keep (.keep (.keep Sub.nil))))))))))))))))))) (fun t435 => (lb_set 14 nd (lx_call (ok_covered fa) (hr.mono (by decide)) fa.g_covered fa.F_covered.kp fa.b_covered (fun _ => (.cons cp_it (.cons cp_it (.cons cp_it .nil)))) (la_cons (lx_var 6 cp_it rfl) (fun p436 => (la_cons (lx_var 13 cp_it rfl) (fun p437 => (la_cons (lx_var 8 cp_it rfl) (fun p438 => la_nil))))))) (fun v_told_440 p441 => (lb_ifr (lt_w (lw_or (lt_cmp (lc_neT hu dv_it dv_it (dtT4 dtI dtI dtI dtI) (evT4 evI evI evI evI) (lo_of (lx_var 14 cp_it rfl)) (fun p442 => (lo_of (lx_tup (la_cons (lx_part part2_0 (lx_ix lm_ow.w (lo_var 7 rfl) (fun p443 => lx_int) (fun _ _ => rfl))) (fun p445 => (la_cons (lx_part part2_1 (lx_ix lm_ow.w (lo_var 7 rfl) (fun p446 => lx_int) (fun _ _ => rfl))) (fun p448 => (la_cons (lx_add (lx_sub (lx_part part2_0 (lx_ix lm_ow.w (lo_var 7 rfl) (fun p454 => (lx_neg lx_int)) (fun _ _ => rfl))) (fun p456 => (lx_part part2_0 (lx_ix lm_ow.w (lo_var 7 rfl) (fun p457 => lx_int) (fun _ _ => rfl))))) (fun p459 => lx_int)) (fun p460 => (la_cons (lx_add (lx_sub (lx_part part2_1 (lx_ix lm_ow.w (lo_var 7 rfl) (fun p466 => (lx_neg lx_int)) (fun _ _ => rfl))) (fun p468 => (lx_part part2_1 (lx_ix lm_ow.w (lo_var 7 rfl) (fun p469 => lx_int) (fun _ _ => rfl))))) (fun p471 => lx_int)) (fun p472 => la_nil)))))))) (eT4 eI eI eI eI) (fun a : Int × Int × Int × Int × Unit => (a.1, a.2.1, a.2.2.1, a.2.2.2.1)) (fun a => [eI.enc a.1, eI.enc a.2.1, eI.enc a.2.2.1, eI.enc a.2.2.2.1]) (fun _ => (.cons (.cons (.cons (.cons .nil))))) (fun _ => rfl)))) (fun _ _ => trivial) (fun _ _ => trivial)) (nomark _)) (fun p473 => (lw_or1 (lt_cmp (lc_neT hu dv_it (dv_ls dv_it) (dtL (dtT2 dtI dtI)) (evL (evT2 evI evI)) (lo_of (lx_call (ok_cells_of fa) (hr.mono (by decide)) fa.g_cells_of fa.F_cells_of.kp fa.b_cells_of (fun _ => (.cons cp_it .nil)) (la_cons (lx_var 14 cp_it rfl) (fun p474 => la_nil)))) (fun p476 => (lo_var 7 rfl)) (fun _ _ => trivial) (fun _ _ => rfl)) (nomark _)))) (fun p473 _ => Sub.refl _))) (fun p477 => (lb_ret lx_bl (fun _ => ()) (fun p => (.drop (.drop (.drop (.drop (.drop (.drop (.drop (.drop (.drop (.drop (.keep (.keep (.drop (.drop (.drop Sub.nil)))))))))))))))))) (fun p477 => (lb_end p402.1.2 (.keep (.keep (.keep (.keep (.keep (.drop (.drop (.drop (.drop (.drop (.keep (.keep (.drop (.drop (.drop Sub.nil))))))))))))))))))))))))))))))))))))))))))) (fun t484 => (lb_ret lx_bl (fun _ => ()) (fun p => (.drop (.drop (.drop (.drop (.drop (.keep (.keep (.keep (.keep (.keep (.keep (.keep (.keep (.keep (.keep Sub.nil)))))))))))))))))))))))))))))
    (by first | (unfold m_law; dsimp only [id]; done) | (unfold m_law; dsimp only [id]; rfl) | rfl)
end
/-! ### turning and mirroring in plain words -/
def cellF (w : Nat) (x y : Int) : Int × Int := match w with
  | 0 => (x, y) | 1 => (-1 - y, x) | 2 => (-1 - x, -1 - y) | 3 => (y, -1 - x)
  | 4 => (-1 - x, y) | 5 => (-1 - y, -1 - x) | 6 => (x, -1 - y) | _ => (y, x)
theorem pcell {w : Nat} (h : w < 8) (l o x y : Int) : m_placed_cell (l, o, (w : Int)) x y = some ((cellF w x y).1 + l, (cellF w x y).2 + o) := by
  match w, h with
  | 0, _ => exact congrArg some (Prod.ext (by show x + l = x + l; rfl) (by show y + o = y + o; rfl))
  | 1, _ => exact congrArg some (Prod.ext (by show (-1 - y) + l = (-1 - y) + l; rfl) (by show x + o = x + o; rfl))
  | 2, _ => exact congrArg some (Prod.ext (by show (-1 - x) + l = (-1 - x) + l; rfl) (by show (-1 - y) + o = (-1 - y) + o; rfl))
  | 3, _ => exact congrArg some (Prod.ext (by show (-1 - (-1 - y)) + l = y + l; omega) (by show (-1 - x) + o = (-1 - x) + o; rfl))
  | 4, _ => exact congrArg some (Prod.ext (by show (-1 - x) + l = (-1 - x) + l; rfl) (by show y + o = y + o; rfl))
  | 5, _ => exact congrArg some (Prod.ext (by show (-1 - y) + l = (-1 - y) + l; rfl) (by show (-1 - x) + o = (-1 - x) + o; rfl))
  | 6, _ => exact congrArg some (Prod.ext (by show (-1 - (-1 - x)) + l = x + l; omega) (by show (-1 - y) + o = (-1 - y) + o; rfl))
  | 7, _ => exact congrArg some (Prod.ext (by show (-1 - (-1 - y)) + l = y + l; omega) (by show (-1 - (-1 - x)) + o = x + o; omega))
theorem pput {w : Nat} (h : w < 8) (l o x y : Int) : m__law_put (l, o, (w : Int)) (x, y) = some ((cellF w x y).1 + l, (cellF w x y).2 + o) := by
  match w, h with
  | 0, _ => exact congrArg some (Prod.ext (by show x + l = x + l; rfl) (by show y + o = y + o; rfl))
  | 1, _ => exact congrArg some (Prod.ext (by show (-1 - y) + l = (-1 - y) + l; rfl) (by show x + o = x + o; rfl))
  | 2, _ => exact congrArg some (Prod.ext (by show (-1 - x) + l = (-1 - x) + l; rfl) (by show (-1 - y) + o = (-1 - y) + o; rfl))
  | 3, _ => exact congrArg some (Prod.ext (by show (-1 - (-1 - y)) + l = y + l; omega) (by show (-1 - x) + o = (-1 - x) + o; rfl))
  | 4, _ => exact congrArg some (Prod.ext (by show (-1 - x) + l = (-1 - x) + l; rfl) (by show y + o = y + o; rfl))
  | 5, _ => exact congrArg some (Prod.ext (by show (-1 - y) + l = (-1 - y) + l; rfl) (by show (-1 - x) + o = (-1 - x) + o; rfl))
  | 6, _ => exact congrArg some (Prod.ext (by show (-1 - (-1 - x)) + l = x + l; omega) (by show (-1 - y) + o = (-1 - y) + o; rfl))
  | 7, _ => exact congrArg some (Prod.ext (by show (-1 - (-1 - y)) + l = y + l; omega) (by show (-1 - (-1 - x)) + o = x + o; omega))
def linF (w : Nat) (d : Int × Int) : Int × Int := ((cellF w d.1 d.2).1 - (cellF w 0 0).1, (cellF w d.1 d.2).2 - (cellF w 0 0).2)
theorem pway {w : Nat} (h : w < 8) (l o : Int) (d : Int × Int) : m_placed_way (l, o, (w : Int)) d = some (linF w d) := by
  unfold m_placed_way
  rw [pcell h, pcell h]
  exact congrArg some (Prod.ext (by show _ + l - (_ + l) = _ - _; omega) (by show _ + o - (_ + o) = _ - _; omega))
def joinC (m : Bool) (east goal : Int × Int) : Option (Int × Int × Int) :=
  whileO 100 ((4 : Int) * (if m = true then (1 : Int) else 0)) fun (t102 : Int) kc103 => (
    (m_placed_way ((0 : Int), (0 : Int), t102) ((1 : Int), (0 : Int))).bind fun r113 =>
    if (!decide (r113 = east)) = true then kc103 (t102 + 1)
    else (m_placed_cell ((0 : Int), (0 : Int), t102) (0 : Int) (0 : Int)).bind fun r125 => some ((goal.1 - r125.1), (goal.2 - r125.2), t102))
def wayOf (m : Bool) (east : Int × Int) : Nat :=
  if m = true then (if east = (-1, 0) then 4 else if east = (0, -1) then 5 else if east = (1, 0) then 6 else 7)
  else (if east = (1, 0) then 0 else if east = (0, 1) then 1 else if east = (-1, 0) then 2 else 3)
theorem join_step {n : Nat} {w : Nat} {east goal : Int × Int} (h : w < 8) : whileO (n + 1) (w : Int) (fun (t102 : Int) kc103 => (
    (m_placed_way ((0 : Int), (0 : Int), t102) ((1 : Int), (0 : Int))).bind fun r113 =>
    if (!decide (r113 = east)) = true then kc103 (t102 + 1)
    else (m_placed_cell ((0 : Int), (0 : Int), t102) (0 : Int) (0 : Int)).bind fun r125 => some ((goal.1 - r125.1), (goal.2 - r125.2), t102))) =
    if linF w (1, 0) = east then some (goal.1 - (cellF w 0 0).1, goal.2 - (cellF w 0 0).2, (w : Int)) else whileO n ((w : Int) + 1) (fun (t102 : Int) kc103 => (
    (m_placed_way ((0 : Int), (0 : Int), t102) ((1 : Int), (0 : Int))).bind fun r113 =>
    if (!decide (r113 = east)) = true then kc103 (t102 + 1)
    else (m_placed_cell ((0 : Int), (0 : Int), t102) (0 : Int) (0 : Int)).bind fun r125 => some ((goal.1 - r125.1), (goal.2 - r125.2), t102))) := by
  show (m_placed_way ((0 : Int), (0 : Int), (w : Int)) ((1 : Int), (0 : Int))).bind _ = _
  rw [pway h]
  show (if (!decide (linF w (1, 0) = east)) = true then _ else _) = _
  by_cases c : linF w (1, 0) = east
  · rw [if_neg (by simp [c]), if_pos c, pcell h]
    show some _ = some _
    simp
  · rw [if_pos (by simp [c]), if_neg c]
theorem join_is {m : Bool} {east goal : Int × Int} (he : east = (1, 0) ∨ east = (0, 1) ∨ east = (-1, 0) ∨ east = (0, -1)) : joinC m east goal = some (goal.1 - (cellF (wayOf m east) 0 0).1, goal.2 - (cellF (wayOf m east) 0 0).2, ((wayOf m east : Nat) : Int)) := by
  unfold joinC
  cases m with
  | false =>
    show whileO (99 + 1) ((0 : Nat) : Int) _ = _
    rw [join_step (by decide)]
    rcases he with rfl | rfl | rfl | rfl
    · rfl
    · rw [if_neg (by decide)]
      show whileO (98 + 1) ((1 : Nat) : Int) _ = _
      rw [join_step (by decide)]; rfl
    · rw [if_neg (by decide)]
      show whileO (98 + 1) ((1 : Nat) : Int) _ = _
      rw [join_step (by decide), if_neg (by decide)]
      show whileO (97 + 1) ((2 : Nat) : Int) _ = _
      rw [join_step (by decide)]; rfl
    · rw [if_neg (by decide)]
      show whileO (98 + 1) ((1 : Nat) : Int) _ = _
      rw [join_step (by decide), if_neg (by decide)]
      show whileO (97 + 1) ((2 : Nat) : Int) _ = _
      rw [join_step (by decide), if_neg (by decide)]
      show whileO (96 + 1) ((3 : Nat) : Int) _ = _
      rw [join_step (by decide)]; rfl
  | true =>
    show whileO (99 + 1) ((4 : Nat) : Int) _ = _
    rw [join_step (by decide)]
    rcases he with rfl | rfl | rfl | rfl
    · rw [if_neg (by decide)]
      show whileO (98 + 1) ((5 : Nat) : Int) _ = _
      rw [join_step (by decide), if_neg (by decide)]
      show whileO (97 + 1) ((6 : Nat) : Int) _ = _
      rw [join_step (by decide)]; rfl
    · rw [if_neg (by decide)]
      show whileO (98 + 1) ((5 : Nat) : Int) _ = _
      rw [join_step (by decide), if_neg (by decide)]
      show whileO (97 + 1) ((6 : Nat) : Int) _ = _
      rw [join_step (by decide), if_neg (by decide)]
      show whileO (96 + 1) ((7 : Nat) : Int) _ = _
      rw [join_step (by decide)]; rfl
    · rfl
    · rw [if_neg (by decide)]
      show whileO (98 + 1) ((5 : Nat) : Int) _ = _
      rw [join_step (by decide)]; rfl
theorem lin_unit {w : Nat} (h : w < 8) {d : Int × Int} (hd : d = (1, 0) ∨ d = (0, 1) ∨ d = (-1, 0) ∨ d = (0, -1)) : linF w d = (1, 0) ∨ linF w d = (0, 1) ∨ linF w d = (-1, 0) ∨ linF w d = (0, -1) := by
  match w, h with
  | 0, _ => rcases hd with rfl | rfl | rfl | rfl <;> decide
  | 1, _ => rcases hd with rfl | rfl | rfl | rfl <;> decide
  | 2, _ => rcases hd with rfl | rfl | rfl | rfl <;> decide
  | 3, _ => rcases hd with rfl | rfl | rfl | rfl <;> decide
  | 4, _ => rcases hd with rfl | rfl | rfl | rfl <;> decide
  | 5, _ => rcases hd with rfl | rfl | rfl | rfl <;> decide
  | 6, _ => rcases hd with rfl | rfl | rfl | rfl <;> decide
  | 7, _ => rcases hd with rfl | rfl | rfl | rfl <;> decide
theorem way_comp {v w : Nat} (hv : v < 8) (hw : w < 8) (x y a b : Int) :
    (cellF (wayOf (!decide ((decide ((4 : Int) ≤ (w : Int))) = decide ((4 : Int) ≤ (v : Int)))) (linF v (linF w (1, 0)))) x y).1 - (cellF (wayOf (!decide ((decide ((4 : Int) ≤ (w : Int))) = decide ((4 : Int) ≤ (v : Int)))) (linF v (linF w (1, 0)))) 0 0).1 + (cellF v ((cellF w 0 0).1 + a) ((cellF w 0 0).2 + b)).1 = (cellF v ((cellF w x y).1 + a) ((cellF w x y).2 + b)).1 ∧
    (cellF (wayOf (!decide ((decide ((4 : Int) ≤ (w : Int))) = decide ((4 : Int) ≤ (v : Int)))) (linF v (linF w (1, 0)))) x y).2 - (cellF (wayOf (!decide ((decide ((4 : Int) ≤ (w : Int))) = decide ((4 : Int) ≤ (v : Int)))) (linF v (linF w (1, 0)))) 0 0).2 + (cellF v ((cellF w 0 0).1 + a) ((cellF w 0 0).2 + b)).2 = (cellF v ((cellF w x y).1 + a) ((cellF w x y).2 + b)).2 := by
  have key : ∀ v w : Fin 8, ∃ u : Nat, wayOf (!decide ((decide ((4 : Int) ≤ ((w.val : Nat) : Int))) = decide ((4 : Int) ≤ ((v.val : Nat) : Int)))) (linF v.val (linF w.val (1, 0))) = u ∧ True := fun v w => ⟨_, rfl, trivial⟩
  match v, hv with
  | 0, _ => match w, hw with | 0, _ | 1, _ | 2, _ | 3, _ | 4, _ | 5, _ | 6, _ | 7, _ => simp [wayOf, linF, cellF] <;> omega
  | 1, _ => match w, hw with | 0, _ | 1, _ | 2, _ | 3, _ | 4, _ | 5, _ | 6, _ | 7, _ => simp [wayOf, linF, cellF] <;> omega
  | 2, _ => match w, hw with | 0, _ | 1, _ | 2, _ | 3, _ | 4, _ | 5, _ | 6, _ | 7, _ => simp [wayOf, linF, cellF] <;> omega
  | 3, _ => match w, hw with | 0, _ | 1, _ | 2, _ | 3, _ | 4, _ | 5, _ | 6, _ | 7, _ => simp [wayOf, linF, cellF] <;> omega
  | 4, _ => match w, hw with | 0, _ | 1, _ | 2, _ | 3, _ | 4, _ | 5, _ | 6, _ | 7, _ => simp [wayOf, linF, cellF] <;> omega
  | 5, _ => match w, hw with | 0, _ | 1, _ | 2, _ | 3, _ | 4, _ | 5, _ | 6, _ | 7, _ => simp [wayOf, linF, cellF] <;> omega
  | 6, _ => match w, hw with | 0, _ | 1, _ | 2, _ | 3, _ | 4, _ | 5, _ | 6, _ | 7, _ => simp [wayOf, linF, cellF] <;> omega
  | 7, _ => match w, hw with | 0, _ | 1, _ | 2, _ | 3, _ | 4, _ | 5, _ | 6, _ | 7, _ => simp [wayOf, linF, cellF] <;> omega
theorem joined_is {v w : Nat} (hv : v < 8) (hw : w < 8) (l o a b : Int) : ∃ (p q : Int) (u : Nat), u < 8 ∧ m_joined 100 (l, o, (v : Int)) (a, b, (w : Int)) = some (p, q, (u : Int)) ∧
    ∀ x y, m_placed_cell (p, q, (u : Int)) x y = some ((cellF v ((cellF w x y).1 + a) ((cellF w x y).2 + b)).1 + l, (cellF v ((cellF w x y).1 + a) ((cellF w x y).2 + b)).2 + o) := by
  have hu : wayOf (!decide ((decide ((4 : Int) ≤ (w : Int))) = decide ((4 : Int) ≤ (v : Int)))) (linF v (linF w (1, 0))) < 8 := by
    unfold wayOf
    repeat' split
    all_goals decide
  have e : m_joined 100 (l, o, (v : Int)) (a, b, (w : Int)) = joinC (!decide ((decide ((4 : Int) ≤ (w : Int))) = decide ((4 : Int) ≤ (v : Int)))) (linF v (linF w (1, 0))) ((cellF v ((cellF w 0 0).1 + a) ((cellF w 0 0).2 + b)).1 + l, (cellF v ((cellF w 0 0).1 + a) ((cellF w 0 0).2 + b)).2 + o) := by
    unfold m_joined
    dsimp only
    rw [pway hw, Option.bind_some, pway hv, Option.bind_some, pcell hw, Option.bind_some]
    dsimp only
    rw [pcell hv, Option.bind_some, mulOk_l (by decide) (by decide), ck_true]
    rfl
  rw [join_is (lin_unit hv (lin_unit hw (.inl rfl)))] at e
  refine ⟨_, _, _, hu, e, fun x y => ?_⟩
  · rw [pcell hu]
    have := way_comp hv hw x y a b
    exact congrArg some (Prod.ext (by dsimp only; omega) (by dsimp only; omega))
/-! ### the drawing -/
theorem draw_ok {t : (List Int) × Int × Int × Int} {m : Int} (ht : 0 ≤ t.2.1) (h0 : 0 < m) (h1 : m < 1073741824) : ∃ v t', m__law_draw t m = some (v, t') ∧ 0 ≤ v ∧ v < m ∧ 0 ≤ t'.2.1 := by
  obtain ⟨l, i, c, d⟩ := t
  have last : ∀ j : (List Int) × Int × Int × Int, 0 ≤ j.2.1 → ∃ v t', (if (decide ((0 : Int) < j.2.2.1)) = true then (
      ck (modOk m) (ck (divOk m) (some (Int.fmod j.2.2.1 m, (j.1, j.2.1, Int.fdiv j.2.2.1 m, j.2.2.2)))))
    else (
      ck (mulOk j.2.2.2 (69621 : Int)) (ck (modOk (2147483629 : Int)) (
      ck (divOk (11 : Int)) (ck (modOk m) (some ((Int.fmod (Int.fdiv (Int.fmod ((j.2.2.2 * (69621 : Int)) + (7 : Int)) (2147483629 : Int)) (11 : Int)) m), (j.1, j.2.1, j.2.2.1, Int.fmod ((j.2.2.2 * (69621 : Int)) + (7 : Int)) (2147483629 : Int)))))))) : Option (Int × ((List Int) × Int × Int × Int))) = some (v, t') ∧ 0 ≤ v ∧ v < m ∧ 0 ≤ t'.2.1 := fun j hj => by
    rw [modOk_pos h0, divOk_pos h0 h1, mulOk_r (by decide) (by decide), modOk_pos (by decide), divOk_pos (by decide) (by decide)]
    simp only [ck_true]
    split
    · exact ⟨_, _, rfl, Int.fmod_nonneg_of_pos _ h0, Int.fmod_lt_of_pos _ h0, hj⟩
    · exact ⟨_, _, rfl, Int.fmod_nonneg_of_pos _ h0, Int.fmod_lt_of_pos _ h0, hj⟩
  unfold m__law_draw
  dsimp only at ht ⊢
  by_cases c1 : c = 0
  · rw [if_pos (decide_eq_true c1)]
    by_cases c2 : i < (l.length : Int)
    · rw [if_pos (decide_eq_true c2)]
      obtain ⟨k, hk, rfl, ek⟩ := atI_pos (xs := l) ht c2
      rw [ek, Option.bind_some, show powOk (10 : Int) (18 : Int) = true by decide, ck_true]
      split
      · rw [mulOk_r (by decide) (by decide), modOk_pos (by decide), ck_true, ck_true]
        exact last (l, (k : Int) + 1, l[k], _) (by dsimp only; omega)
      · rw [mulOk_r (by decide) (by decide), modOk_pos (by decide), ck_true, ck_true]
        exact last (l, (k : Int) + 1, c, _) (by dsimp only; omega)
    · rw [if_neg (by simpa using c2)]
      exact last (l, i, c, d) ht
  · rw [if_neg (by simpa using c1), if_neg (by decide)]
    exact last (l, i, c, d) ht
theorem draw_wp {Ω : Type} {t : (List Int) × Int × Int × Int} {m : Int} {k : Int × ((List Int) × Int × Int × Int) → Option Ω} {ω : Ω} (ht : 0 ≤ t.2.1) (h0 : 0 < m) (h1 : m < 1073741824) (hk : ∀ v t', 0 ≤ v → v < m → 0 ≤ t'.2.1 → k (v, t') = some ω) : (m__law_draw t m).bind k = some ω := by
  obtain ⟨v, t', e, a, b, c⟩ := draw_ok ht h0 h1
  exact bind_wp e (hk v t' a b c)
theorem place_wp {Ω : Type} {t : (List Int) × Int × Int × Int} {k : (Int × Int × Int) × ((List Int) × Int × Int × Int) → Option Ω} {ω : Ω} (ht : 0 ≤ t.2.1) (hk : ∀ (a b : Int) (w : Nat) t', w < 8 → 0 ≤ t'.2.1 → k ((a, b, (w : Int)), t') = some ω) : (m__law_place t).bind k = some ω := by
  suffices ∃ a b w t', m__law_place t = some ((a, b, ((w : Nat) : Int)), t') ∧ w < 8 ∧ 0 ≤ t'.2.1 by
    obtain ⟨a, b, w, t', e, h1, h2⟩ := this
    exact bind_wp e (hk a b w t' h1 h2)
  unfold m__law_place
  obtain ⟨v, t1, e, a0, b0, ht⟩ := draw_ok (m := 3) ht (by decide) (by decide)
  rw [e, Option.bind_some]
  obtain ⟨z, ez, z0, z1⟩ : ∃ z, atI [(3 : Int), 30, 200] v = some z ∧ 0 < z ∧ z ≤ 200 := by
    have : v = 0 ∨ v = 1 ∨ v = 2 := by omega
    rcases this with rfl | rfl | rfl
    · exact ⟨3, rfl, by decide, by decide⟩
    · exact ⟨30, rfl, by decide, by decide⟩
    · exact ⟨200, rfl, by decide, by decide⟩
  dsimp only
  rw [ez, Option.bind_some, mulOk_l (by decide) (by decide), ck_true]
  obtain ⟨v2, t2, e2, a2, b2, ht⟩ := draw_ok (m := 2 * z) ht (by omega) (by omega)
  rw [e2, Option.bind_some, ck_true]
  obtain ⟨v3, t3, e3, a3, b3, ht⟩ := draw_ok (m := 2 * z) ht (by omega) (by omega)
  dsimp only
  rw [e3, Option.bind_some]
  obtain ⟨v4, t4, e4, a4, b4, ht⟩ := draw_ok (m := 8) ht (by decide) (by decide)
  dsimp only
  rw [e4, Option.bind_some]
  obtain ⟨w, rfl⟩ := Int.eq_ofNat_of_zero_le a4
  exact ⟨_, _, w, t4, rfl, by omega, ht⟩
/-! ### squares -/
theorem square_min {w : Nat} {l o x y s : Int} (hw : w < 8) (hs : 0 < s) :
    minB lpp ((rangeL 0 s).flatMap fun c => (rangeL 0 s).map fun r => ((cellF w (x + c) (y + r)).1 + l, (cellF w (x + c) (y + r)).2 + o)) =
      some (min ((cellF w x y).1 + l) ((cellF w (x + s - 1) (y + s - 1)).1 + l), min ((cellF w x y).2 + o) ((cellF w (x + s - 1) (y + s - 1)).2 + o)) := by
  have go : ∀ c r : Int, 0 ≤ c → c < s → 0 ≤ r → r < s →
      (min ((cellF w x y).1 + l) ((cellF w (x + s - 1) (y + s - 1)).1 + l), min ((cellF w x y).2 + o) ((cellF w (x + s - 1) (y + s - 1)).2 + o)) = ((cellF w (x + c) (y + r)).1 + l, (cellF w (x + c) (y + r)).2 + o) →
      (min ((cellF w x y).1 + l) ((cellF w (x + s - 1) (y + s - 1)).1 + l), min ((cellF w x y).2 + o) ((cellF w (x + s - 1) (y + s - 1)).2 + o)) ∈ ((rangeL 0 s).flatMap fun c => (rangeL 0 s).map fun r => ((cellF w (x + c) (y + r)).1 + l, (cellF w (x + c) (y + r)).2 + o)) := fun c r h1 h2 h3 h4 e => by
    rw [e]
    exact List.mem_flatMap.2 ⟨c, mem_range2.2 ⟨h1, h2⟩, List.mem_map.2 ⟨r, mem_range2.2 ⟨h3, h4⟩, rfl⟩⟩
  refine minB_pp ?_ fun p hp => ?_
  · match w, hw with
    | 0, _ => exact go 0 0 (by omega) (by omega) (by omega) (by omega) (Prod.ext (by simp only [cellF]; omega) (by simp only [cellF]; omega))
    | 1, _ => exact go 0 (s - 1) (by omega) (by omega) (by omega) (by omega) (Prod.ext (by simp only [cellF]; omega) (by simp only [cellF]; omega))
    | 2, _ => exact go (s - 1) (s - 1) (by omega) (by omega) (by omega) (by omega) (Prod.ext (by simp only [cellF]; omega) (by simp only [cellF]; omega))
    | 3, _ => exact go (s - 1) 0 (by omega) (by omega) (by omega) (by omega) (Prod.ext (by simp only [cellF]; omega) (by simp only [cellF]; omega))
    | 4, _ => exact go (s - 1) 0 (by omega) (by omega) (by omega) (by omega) (Prod.ext (by simp only [cellF]; omega) (by simp only [cellF]; omega))
    | 5, _ => exact go (s - 1) (s - 1) (by omega) (by omega) (by omega) (by omega) (Prod.ext (by simp only [cellF]; omega) (by simp only [cellF]; omega))
    | 6, _ => exact go 0 (s - 1) (by omega) (by omega) (by omega) (by omega) (Prod.ext (by simp only [cellF]; omega) (by simp only [cellF]; omega))
    | 7, _ => exact go 0 0 (by omega) (by omega) (by omega) (by omega) (Prod.ext (by simp only [cellF]; omega) (by simp only [cellF]; omega))
  · obtain ⟨c, hc, hp⟩ := List.mem_flatMap.1 hp
    obtain ⟨r, hr, rfl⟩ := List.mem_map.1 hp
    rw [mem_range2] at hc hr
    rw [lpp_no]
    match w, hw with
    | 0, _ | 1, _ | 2, _ | 3, _ | 4, _ | 5, _ | 6, _ | 7, _ => simp only [cellF]; omega
theorem anchor_is {w : Nat} (hw : w < 8) (l o x y s : Int) : m_placed_anchor (l, o, (w : Int)) x y s =
    some (min ((cellF w x y).1 + l) ((cellF w (x + s - 1) (y + s - 1)).1 + l), min ((cellF w x y).2 + o) ((cellF w (x + s - 1) (y + s - 1)).2 + o)) := by
  unfold m_placed_anchor
  rw [pcell hw, Option.bind_some, pcell hw, Option.bind_some]
theorem cells_of_is {x y a b : Int} (hx : -1000 ≤ x ∧ x ≤ 1000) (hy : -1000 ≤ y ∧ y ≤ 1000) (ha : a ≤ 1000) (hb : b ≤ 1000) (ha0 : 0 ≤ a) (hb0 : 0 ≤ b) : m_cells_of (x, y, a, b) = some (grid x (x + a) y (y + b)) := by
  unfold m_cells_of
  dsimp only
  rw [rgOk_small (by omega) (by omega) (by omega) (by omega), ck_true]
  refine (forO_cat (fun c => (rangeL y (y + b)).map fun r => (c, r)) 1000 SZ _ _ (by rw [rangeL_len]; show _ ≤ 16777216; simp; omega) fun c mc => ⟨by simp [rangeL_len]; omega, fun s kc hs => ?_⟩).trans ?_
  · rw [rgOk_small (by omega) (by omega) (by omega) (by omega), ck_true]
    refine (compO_map (fun r => (c, r)) () _ [] (by rw [rangeL_len]; show _ ≤ 16777216; simp; omega) (fun _ _ _ => rfl)).trans ?_
    rw [List.nil_append, decide_eq_true (by simp [rangeL_len]; omega), ck_true]
  · rw [List.nil_append]; rfl
theorem law_true (ns : List Int) (h : ns.length ≤ 63) : m_law 100 ns = some true := by
  unfold m_law
  refine bind_wp (a := (ns, (0 : Int), (0 : Int), (1 : Int))) rfl ?_
  dsimp only
  refine place_wp (Int.le_refl 0) fun l o v t hv ht => ?_
  refine place_wp ht fun a b w t hw ht => ?_
  obtain ⟨p, q, u, hu, ej, hj⟩ := joined_is hv hw l o a b
  refine bind_wp ej ?_
  dsimp only
  rw [if_neg (show ¬ ((!true) = true) by decide), if_neg (show ¬ ((!decide (((3 : Nat) : Int) = (3 : Int))) = true) by decide)]
  refine ck_wp (by decide) (forO_wp (fun t : (List Int) × Int × Int × Int => 0 ≤ t.2.1) ht (fun t xx mx ht kc hkc => ?_) fun t ht => rfl)
  refine draw_wp ht (by decide) (by decide) fun x t a1 b1 ht => draw_wp ht (by decide) (by decide) fun y t a2 b2 ht => ?_
  dsimp only
  refine bind_wp (pput hw a b _ _) (bind_wp (pput hv l o _ _) (bind_wp (pcell hv l o _ _) (bind_wp (pput hv l o _ _) ?_)))
  rw [if_neg (by simp)]
  refine bind_wp (hj _ _) ?_
  rw [if_neg (by simp)]
  refine draw_wp ht (by decide) (by decide) fun z t a3 b3 ht => ?_
  dsimp only
  generalize hx0 : x - 30 = x0
  generalize hy0 : y - 30 = y0
  generalize hs : 1 + z = s
  have s0 : 0 < s := by omega
  refine ck_wp (rgOk_small (by omega) (by omega) (by omega) (by omega)) ?_
  have eg : ∀ c : Int, ∀ kk : List (Int × Int) → Unit → Option Bool, ck (rgOk 0 s) (compO (rangeL 0 s) () (fun x360 (t359 : Unit) kc372 => (
            (m__law_put (l, o, (v : Int)) ((x0 + c), (y0 + x360))).bind fun r368 =>
            kc372 (some r368) ())) [] kk) = kk ((rangeL 0 s).map fun r => ((cellF v (x0 + c) (y0 + r)).1 + l, (cellF v (x0 + c) (y0 + r)).2 + o)) () := fun c kk => by
    rw [rgOk_small (by omega) (by omega) (by omega) (by omega), ck_true]
    refine (compO_map (fun r => ((cellF v (x0 + c) (y0 + r)).1 + l, (cellF v (x0 + c) (y0 + r)).2 + o)) () _ [] (by rw [rangeL_len]; show _ ≤ 16777216; simp; omega) (fun r _ kc => by rw [pput hv]; rfl)).trans ?_
    rw [List.nil_append]
  refine (forO_cat (fun c => (rangeL 0 s).map fun r => ((cellF v (x0 + c) (y0 + r)).1 + l, (cellF v (x0 + c) (y0 + r)).2 + o)) 1000 SZ _ _ (by rw [rangeL_len]; show _ ≤ 16777216; simp; omega) fun c mc => ⟨by simp [rangeL_len]; omega, fun ss kc hss => ?_⟩).trans ?_
  · rw [eg, decide_eq_true (by simp [rangeL_len]; omega), ck_true]
  rw [List.nil_append]
  refine bind_wp (anchor_is hv l o _ _ _) ?_
  refine bind_wp (square_min hv s0) ?_
  rw [if_neg (by simp)]
  refine draw_wp ht (by decide) (by decide) fun g t a4 b4 ht => draw_wp ht (by decide) (by decide) fun f t a5 b5 ht => ?_
  dsimp only
  have fin : ∀ e1 e2 : Int, x0 - 10 ≤ e1 → e1 ≤ x0 + 10 → y0 - 10 ≤ e2 → e2 ≤ y0 + 10 → ck (rgOk (min x0 e1) ((max x0 e1) + s)) (forO (rangeL (min x0 e1) ((max x0 e1) + s)) ([] : List (Int × Int)) (fun x412 (t411 : (List (Int × Int))) kc413 => (
                ck (rgOk (min y0 e2) ((max y0 e2) + s)) (compO (rangeL (min y0 e2) ((max y0 e2) + s)) () (fun x423 (t422 : Unit) kc430 => (
                  kc430 (some (x412, x423)) ())) [] fun (ys428 : List (Int × Int)) (t429 : Unit) => (
                  ck (decide (List.length t411 + List.length ys428 ≤ SZ)) (
                  kc413 (t411 ++ ys428))))))
                fun t435 : (List (Int × Int)) => (
                (m_covered (x0, y0) (e1, e2) s).bind fun r439 =>
                (atI t435 (0 : Int)).bind fun y444 =>
                (atI t435 (0 : Int)).bind fun y447 =>
                (atI t435 (-(1 : Int))).bind fun y455 =>
                (atI t435 (0 : Int)).bind fun y458 =>
                (atI t435 (-(1 : Int))).bind fun y467 =>
                (atI t435 (0 : Int)).bind fun y470 =>
                if (!decide (r439 = (y444.1, y447.2, ((y455.1 - y458.1) + (1 : Int)), ((y467.2 - y470.2) + (1 : Int))))) = true then (if true = true then some false else kc t) else ((m_cells_of r439).bind fun r475 =>
                if (!decide (r475 = t435)) = true then some false else kc t))) = some true := fun e1 e2 g1 g2 g3 g4 => by
    refine ck_wp (rgOk_small (by omega) (by omega) (by omega) (by omega)) ?_
    refine (forO_cat (fun c => (rangeL (min y0 e2) ((max y0 e2) + s)).map fun r => (c, r)) 1000 SZ _ _ (by rw [rangeL_len]; show _ ≤ 16777216; simp; omega) fun c mc => ⟨by simp [rangeL_len]; omega, fun ss kc hss => ?_⟩).trans ?_
    · rw [rgOk_small (by omega) (by omega) (by omega) (by omega), ck_true]
      refine (compO_map (fun r => (c, r)) () _ [] (by rw [rangeL_len]; show _ ≤ 16777216; simp; omega) (fun _ _ _ => rfl)).trans ?_
      rw [List.nil_append, decide_eq_true (by simp [rangeL_len]; omega), ck_true]
    rw [List.nil_append]
    have eG : ((rangeL (min x0 e1) ((max x0 e1) + s)).flatMap fun c => (rangeL (min y0 e2) ((max y0 e2) + s)).map fun r => (c, r)) = grid (min x0 e1) ((max x0 e1) + s) (min y0 e2) ((max y0 e2) + s) := rfl
    rw [eG]
    have f1 := grid_first (x0 := min x0 e1) (x1 := (max x0 e1) + s) (y0 := min y0 e2) (y1 := (max y0 e2) + s) (by omega) (by omega)
    have f2 := grid_last (x0 := min x0 e1) (x1 := (max x0 e1) + s) (y0 := min y0 e2) (y1 := (max y0 e2) + s) (by omega) (by omega)
    have eC : m_covered (x0, y0) (e1, e2) s = some (min x0 e1, min y0 e2, max x0 e1 + s - min x0 e1, max y0 e2 + s - min y0 e2) := by
      unfold m_covered
      refine congrArg some (Prod.ext rfl (Prod.ext rfl (Prod.ext ?_ ?_)))
      · dsimp only; split <;> omega
      · dsimp only; split <;> omega
    refine bind_wp eC (bind_wp f1 (bind_wp f1 (bind_wp f2 (bind_wp f1 (bind_wp f2 (bind_wp f1 ?_))))))
    dsimp only
    have eq1 : ((min x0 e1, min y0 e2, max x0 e1 + s - min x0 e1, max y0 e2 + s - min y0 e2) : Int × Int × Int × Int) = (min x0 e1, min y0 e2, max x0 e1 + s - 1 - min x0 e1 + 1, max y0 e2 + s - 1 - min y0 e2 + 1) := Prod.ext rfl (Prod.ext rfl (Prod.ext (by dsimp only; omega) (by dsimp only; omega)))
    rw [if_neg (by rw [decide_eq_true eq1]; decide)]
    refine bind_wp (cells_of_is (by omega) (by omega) (by omega) (by omega) (by omega) (by omega)) ?_
    have eg2 : grid (min x0 e1) (min x0 e1 + (max x0 e1 + s - min x0 e1)) (min y0 e2) (min y0 e2 + (max y0 e2 + s - min y0 e2)) = grid (min x0 e1) ((max x0 e1) + s) (min y0 e2) ((max y0 e2) + s) := by
      rw [show min x0 e1 + (max x0 e1 + s - min x0 e1) = max x0 e1 + s by omega, show min y0 e2 + (max y0 e2 + s - min y0 e2) = max y0 e2 + s by omega]
    rw [if_neg (by rw [decide_eq_true eg2]; decide)]
    exact hkc t ht
  by_cases c : f = 0
  · rw [if_pos (decide_eq_true c)]
    exact fin (x0 + (g - 10)) y0 (by omega) (by omega) (by omega) (by omega)
  · rw [if_neg (by simpa using c)]
    exact fin x0 (y0 + (g - 10)) (by omega) (by omega) (by omega) (by omega)

/-- what the law's call promises -/
def spLaw (K : Fg) : Sp := fun vs H Q _ => ∃ (a : Addr) (ns : List Int), vs = [.ref a] ∧ SqL K H a (ns.map V.int) ∧ ns.length ≤ 63 ∧ ∀ H', Q (.bl true) H'
theorem ok_end {P : Program} {w : World} {K : Fg} {mg : Str → Option Value} {base : Heap} (fa : Fa K mg) : FnOk P w K mg base CX0 5 fa.f_law fa.fd_law ["script"] (spLaw K) :=
  (ok_law fa 100).imp fun vs H Q E h => by
    obtain ⟨a, ns, rfl, hS, hlen, q⟩ := h
    exact law_sp hS (law_true ns hlen) q
theorem all_mk {l : PySem.W.OpenLaw} {w : World} {K : Fg} {h : Heap} {mg : Str → Option Value} {fz f0 f1 f2 f3 f4 f5 f6 f7 f8 f9 f10 f11 : Addr} (X : K.In h) (G : h.Ns mainGlobals mg) (hfa : mg "law" = some (.ref fz))
    {od0 an0 : Option Addr} {sl0 : Array (Option Value)} {oc0 kV0 dc0 pm0 cd0 ct0 : Value}
    (a0 : PySem.W.nsIn K mainGlobals "turned" = some (some (.ref f0))) (l0 : K.lookup f0 = some ⟨oc0, od0, .func (PySem.W.fnOf "turned" "turned" (defArgs s_turned) (defBody s_turned) (defScope s_turned) .none kV0 dc0 pm0 an0 cd0 ct0), sl0⟩) (c0 : PySem.W.codeIn K cd0 "turned" = true) (k0 : PySem.W.keepIn K (.ref f0) = true)
    {od1 an1 : Option Addr} {sl1 : Array (Option Value)} {oc1 kV1 dc1 pm1 cd1 ct1 : Value}
    (a1 : PySem.W.nsIn K mainGlobals "placed_cell" = some (some (.ref f1))) (l1 : K.lookup f1 = some ⟨oc1, od1, .func (PySem.W.fnOf "placed_cell" "placed_cell" (defArgs s_placed_cell) (defBody s_placed_cell) (defScope s_placed_cell) .none kV1 dc1 pm1 an1 cd1 ct1), sl1⟩) (c1 : PySem.W.codeIn K cd1 "placed_cell" = true) (k1 : PySem.W.keepIn K (.ref f1) = true)
    {od2 an2 : Option Addr} {sl2 : Array (Option Value)} {oc2 kV2 dc2 pm2 cd2 ct2 : Value}
    (a2 : PySem.W.nsIn K mainGlobals "placed_anchor" = some (some (.ref f2))) (l2 : K.lookup f2 = some ⟨oc2, od2, .func (PySem.W.fnOf "placed_anchor" "placed_anchor" (defArgs s_placed_anchor) (defBody s_placed_anchor) (defScope s_placed_anchor) .none kV2 dc2 pm2 an2 cd2 ct2), sl2⟩) (c2 : PySem.W.codeIn K cd2 "placed_anchor" = true) (k2 : PySem.W.keepIn K (.ref f2) = true)
    {od3 an3 : Option Addr} {sl3 : Array (Option Value)} {oc3 kV3 dc3 pm3 cd3 ct3 : Value}
    (a3 : PySem.W.nsIn K mainGlobals "placed_way" = some (some (.ref f3))) (l3 : K.lookup f3 = some ⟨oc3, od3, .func (PySem.W.fnOf "placed_way" "placed_way" (defArgs s_placed_way) (defBody s_placed_way) (defScope s_placed_way) .none kV3 dc3 pm3 an3 cd3 ct3), sl3⟩) (c3 : PySem.W.codeIn K cd3 "placed_way" = true) (k3 : PySem.W.keepIn K (.ref f3) = true)
    {od4 an4 : Option Addr} {sl4 : Array (Option Value)} {oc4 kV4 dc4 pm4 cd4 ct4 : Value}
    (a4 : PySem.W.nsIn K mainGlobals "joined" = some (some (.ref f4))) (l4 : K.lookup f4 = some ⟨oc4, od4, .func (PySem.W.fnOf "joined" "joined" (defArgs s_joined) (defBody s_joined) (defScope s_joined) .none kV4 dc4 pm4 an4 cd4 ct4), sl4⟩) (c4 : PySem.W.codeIn K cd4 "joined" = true) (k4 : PySem.W.keepIn K (.ref f4) = true)
    {od5 an5 : Option Addr} {sl5 : Array (Option Value)} {oc5 kV5 dc5 pm5 cd5 ct5 : Value}
    (a5 : PySem.W.nsIn K mainGlobals "covered" = some (some (.ref f5))) (l5 : K.lookup f5 = some ⟨oc5, od5, .func (PySem.W.fnOf "covered" "covered" (defArgs s_covered) (defBody s_covered) (defScope s_covered) .none kV5 dc5 pm5 an5 cd5 ct5), sl5⟩) (c5 : PySem.W.codeIn K cd5 "covered" = true) (k5 : PySem.W.keepIn K (.ref f5) = true)
    {od6 an6 : Option Addr} {sl6 : Array (Option Value)} {oc6 kV6 dc6 pm6 cd6 ct6 : Value}
    (a6 : PySem.W.nsIn K mainGlobals "cells_of" = some (some (.ref f6))) (l6 : K.lookup f6 = some ⟨oc6, od6, .func (PySem.W.fnOf "cells_of" "cells_of" (defArgs s_cells_of) (defBody s_cells_of) (defScope s_cells_of) .none kV6 dc6 pm6 an6 cd6 ct6), sl6⟩) (c6 : PySem.W.codeIn K cd6 "cells_of" = true) (k6 : PySem.W.keepIn K (.ref f6) = true)
    {od7 an7 : Option Addr} {sl7 : Array (Option Value)} {oc7 kV7 dc7 pm7 cd7 ct7 : Value}
    (a7 : PySem.W.nsIn K mainGlobals "_law_draws" = some (some (.ref f7))) (l7 : K.lookup f7 = some ⟨oc7, od7, .func (PySem.W.fnOf "_law_draws" "_law_draws" (defArgs s__law_draws) (defBody s__law_draws) (defScope s__law_draws) .none kV7 dc7 pm7 an7 cd7 ct7), sl7⟩) (c7 : PySem.W.codeIn K cd7 "_law_draws" = true) (k7 : PySem.W.keepIn K (.ref f7) = true)
    {od8 an8 : Option Addr} {sl8 : Array (Option Value)} {oc8 kV8 dc8 pm8 cd8 ct8 : Value}
    (a8 : PySem.W.nsIn K mainGlobals "_law_draw" = some (some (.ref f8))) (l8 : K.lookup f8 = some ⟨oc8, od8, .func (PySem.W.fnOf "_law_draw" "_law_draw" (defArgs s__law_draw) (defBody s__law_draw) (defScope s__law_draw) .none kV8 dc8 pm8 an8 cd8 ct8), sl8⟩) (c8 : PySem.W.codeIn K cd8 "_law_draw" = true) (k8 : PySem.W.keepIn K (.ref f8) = true)
    {od9 an9 : Option Addr} {sl9 : Array (Option Value)} {oc9 kV9 dc9 pm9 cd9 ct9 : Value}
    (a9 : PySem.W.nsIn K mainGlobals "_law_put" = some (some (.ref f9))) (l9 : K.lookup f9 = some ⟨oc9, od9, .func (PySem.W.fnOf "_law_put" "_law_put" (defArgs s__law_put) (defBody s__law_put) (defScope s__law_put) .none kV9 dc9 pm9 an9 cd9 ct9), sl9⟩) (c9 : PySem.W.codeIn K cd9 "_law_put" = true) (k9 : PySem.W.keepIn K (.ref f9) = true)
    {od10 an10 : Option Addr} {sl10 : Array (Option Value)} {oc10 kV10 dc10 pm10 cd10 ct10 : Value}
    (a10 : PySem.W.nsIn K mainGlobals "_law_place" = some (some (.ref f10))) (l10 : K.lookup f10 = some ⟨oc10, od10, .func (PySem.W.fnOf "_law_place" "_law_place" (defArgs s__law_place) (defBody s__law_place) (defScope s__law_place) .none kV10 dc10 pm10 an10 cd10 ct10), sl10⟩) (c10 : PySem.W.codeIn K cd10 "_law_place" = true) (k10 : PySem.W.keepIn K (.ref f10) = true)
    {od11 an11 : Option Addr} {sl11 : Array (Option Value)} {oc11 kV11 dc11 pm11 cd11 ct11 : Value}
    (a11 : PySem.W.nsIn K mainGlobals "law" = some (some (.ref f11))) (l11 : K.lookup f11 = some ⟨oc11, od11, .func (PySem.W.fnOf "law" "law" (defArgs s_law) (defBody s_law) (defScope s_law) .none kV11 dc11 pm11 an11 cd11 ct11), sl11⟩) (c11 : PySem.W.codeIn K cd11 "law" = true) (k11 : PySem.W.keepIn K (.ref f11) = true)
    (z_abs : PySem.W.nsIn K mainGlobals "abs" = some none)
    (z_int : PySem.W.nsIn K mainGlobals "int" = some none)
    (z_isinstance : PySem.W.nsIn K mainGlobals "isinstance" = some none)
    (z_len : PySem.W.nsIn K mainGlobals "len" = some none)
    (z_list : PySem.W.nsIn K mainGlobals "list" = some none)
    (z_max : PySem.W.nsIn K mainGlobals "max" = some none)
    (z_min : PySem.W.nsIn K mainGlobals "min" = some none)
    (z_range : PySem.W.nsIn K mainGlobals "range" = some none)
    (z_tuple : PySem.W.nsIn K mainGlobals "tuple" = some none) :
    ∃ fd : FuncData, (∀ (s : Shared) (v : Value), BindsTo s fd ⟨[v], []⟩ [("script", v)]) ∧ ∀ base : Heap, K.In base → base.Ns mainGlobals mg → FnOk l.prog w K mg base CX0 5 fz fd ["script"] (spLaw K) := by
  have e := hfa.symm.trans (PySem.W.mg_of X G a11)
  cases e
  exact ⟨PySem.W.fnOf "law" "law" (defArgs s_law) (defBody s_law) (defScope s_law) .none kV11 dc11 pm11 an11 cd11 ct11, fun s v => .of_eq rfl, fun base _ _ => ok_end (fa := { f_turned := f0, fd_turned := PySem.W.fnOf "turned" "turned" (defArgs s_turned) (defBody s_turned) (defScope s_turned) .none kV0 dc0 pm0 an0 cd0 ct0, F_turned := fun_mk (st := s_turned) l0 c0 k0, g_turned := PySem.W.mg_of X G a0, b_turned := (fun_mk (st := s_turned) l0 c0 k0).binds fun _ _ _ _ _ _ us hl => match us, hl with | [_, _, _], _ => rfl, f_placed_cell := f1, fd_placed_cell := PySem.W.fnOf "placed_cell" "placed_cell" (defArgs s_placed_cell) (defBody s_placed_cell) (defScope s_placed_cell) .none kV1 dc1 pm1 an1 cd1 ct1, F_placed_cell := fun_mk (st := s_placed_cell) l1 c1 k1, g_placed_cell := PySem.W.mg_of X G a1, b_placed_cell := (fun_mk (st := s_placed_cell) l1 c1 k1).binds fun _ _ _ _ _ _ us hl => match us, hl with | [_, _, _], _ => rfl, f_placed_anchor := f2, fd_placed_anchor := PySem.W.fnOf "placed_anchor" "placed_anchor" (defArgs s_placed_anchor) (defBody s_placed_anchor) (defScope s_placed_anchor) .none kV2 dc2 pm2 an2 cd2 ct2, F_placed_anchor := fun_mk (st := s_placed_anchor) l2 c2 k2, g_placed_anchor := PySem.W.mg_of X G a2, b_placed_anchor := (fun_mk (st := s_placed_anchor) l2 c2 k2).binds fun _ _ _ _ _ _ us hl => match us, hl with | [_, _, _, _], _ => rfl, f_placed_way := f3, fd_placed_way := PySem.W.fnOf "placed_way" "placed_way" (defArgs s_placed_way) (defBody s_placed_way) (defScope s_placed_way) .none kV3 dc3 pm3 an3 cd3 ct3, F_placed_way := fun_mk (st := s_placed_way) l3 c3 k3, g_placed_way := PySem.W.mg_of X G a3, b_placed_way := (fun_mk (st := s_placed_way) l3 c3 k3).binds fun _ _ _ _ _ _ us hl => match us, hl with | [_, _], _ => rfl, f_joined := f4, fd_joined := PySem.W.fnOf "joined" "joined" (defArgs s_joined) (defBody s_joined) (defScope s_joined) .none kV4 dc4 pm4 an4 cd4 ct4, F_joined := fun_mk (st := s_joined) l4 c4 k4, g_joined := PySem.W.mg_of X G a4, b_joined := (fun_mk (st := s_joined) l4 c4 k4).binds fun _ _ _ _ _ _ us hl => match us, hl with | [_, _], _ => rfl, f_covered := f5, fd_covered := PySem.W.fnOf "covered" "covered" (defArgs s_covered) (defBody s_covered) (defScope s_covered) .none kV5 dc5 pm5 an5 cd5 ct5, F_covered := fun_mk (st := s_covered) l5 c5 k5, g_covered := PySem.W.mg_of X G a5, b_covered := (fun_mk (st := s_covered) l5 c5 k5).binds fun _ _ _ _ _ _ us hl => match us, hl with | [_, _, _], _ => rfl, f_cells_of := f6, fd_cells_of := PySem.W.fnOf "cells_of" "cells_of" (defArgs s_cells_of) (defBody s_cells_of) (defScope s_cells_of) .none kV6 dc6 pm6 an6 cd6 ct6, F_cells_of := fun_mk (st := s_cells_of) l6 c6 k6, g_cells_of := PySem.W.mg_of X G a6, b_cells_of := (fun_mk (st := s_cells_of) l6 c6 k6).binds fun _ _ _ _ _ _ us hl => match us, hl with | [_], _ => rfl, f__law_draws := f7, fd__law_draws := PySem.W.fnOf "_law_draws" "_law_draws" (defArgs s__law_draws) (defBody s__law_draws) (defScope s__law_draws) .none kV7 dc7 pm7 an7 cd7 ct7, F__law_draws := fun_mk (st := s__law_draws) l7 c7 k7, g__law_draws := PySem.W.mg_of X G a7, b__law_draws := (fun_mk (st := s__law_draws) l7 c7 k7).binds fun _ _ _ _ _ _ us hl => match us, hl with | [_], _ => rfl, f__law_draw := f8, fd__law_draw := PySem.W.fnOf "_law_draw" "_law_draw" (defArgs s__law_draw) (defBody s__law_draw) (defScope s__law_draw) .none kV8 dc8 pm8 an8 cd8 ct8, F__law_draw := fun_mk (st := s__law_draw) l8 c8 k8, g__law_draw := PySem.W.mg_of X G a8, b__law_draw := (fun_mk (st := s__law_draw) l8 c8 k8).binds fun _ _ _ _ _ _ us hl => match us, hl with | [_, _], _ => rfl, f__law_put := f9, fd__law_put := PySem.W.fnOf "_law_put" "_law_put" (defArgs s__law_put) (defBody s__law_put) (defScope s__law_put) .none kV9 dc9 pm9 an9 cd9 ct9, F__law_put := fun_mk (st := s__law_put) l9 c9 k9, g__law_put := PySem.W.mg_of X G a9, b__law_put := (fun_mk (st := s__law_put) l9 c9 k9).binds fun _ _ _ _ _ _ us hl => match us, hl with | [_, _], _ => rfl, f__law_place := f10, fd__law_place := PySem.W.fnOf "_law_place" "_law_place" (defArgs s__law_place) (defBody s__law_place) (defScope s__law_place) .none kV10 dc10 pm10 an10 cd10 ct10, F__law_place := fun_mk (st := s__law_place) l10 c10 k10, g__law_place := PySem.W.mg_of X G a10, b__law_place := (fun_mk (st := s__law_place) l10 c10 k10).binds fun _ _ _ _ _ _ us hl => match us, hl with | [_], _ => rfl, f_law := fz, fd_law := PySem.W.fnOf "law" "law" (defArgs s_law) (defBody s_law) (defScope s_law) .none kV11 dc11 pm11 an11 cd11 ct11, F_law := fun_mk (st := s_law) l11 c11 k11, g_law := PySem.W.mg_of X G a11, b_law := (fun_mk (st := s_law) l11 c11 k11).binds fun _ _ _ _ _ _ us hl => match us, hl with | [_], _ => rfl, z_abs := PySem.W.mg_none_of X G z_abs, z_int := PySem.W.mg_none_of X G z_int, z_isinstance := PySem.W.mg_none_of X G z_isinstance, z_len := PySem.W.mg_none_of X G z_len, z_list := PySem.W.mg_none_of X G z_list, z_max := PySem.W.mg_none_of X G z_max, z_min := PySem.W.mg_none_of X G z_min, z_range := PySem.W.mg_none_of X G z_range, z_tuple := PySem.W.mg_none_of X G z_tuple })⟩
end My
open PySem PySem.W PyProof.Rows
set_option maxHeartbeats 0 in
theorem PySem.Challenge.cw_cutwright_k02_placings_holds : PySem.Challenge.rw_cutwright_k02_placings.Holds := by
  w_on; o_law; k_head; (case hw => w_witness2)
  k_fill
  refine L2.walk_of (l := PySem.Challenge.rw_cutwright_k02_placings) (n := 63) (k := 5) (x := "script") (CX := fun _ => L2.CX0) (sp := fun w => My.spLaw _) rfl (by decide) rfl ⟨rfl, by decide, by decide⟩ (fun w h Y => PySem.W.kIn_of Y) ?F (fun _ _ a ns hl _ hS => ⟨a, ns, rfl, hS, hl, fun _ => rfl⟩) (fun _ _ _ _ _ h => h)
  case F =>
    intro w mg fa h KX G hmg
    refine' My.all_mk KX G hmg ?a0 ?l0 ?c0 ?k0 ?a1 ?l1 ?c1 ?k1 ?a2 ?l2 ?c2 ?k2 ?a3 ?l3 ?c3 ?k3 ?a4 ?l4 ?c4 ?k4 ?a5 ?l5 ?c5 ?k5 ?a6 ?l6 ?c6 ?k6 ?a7 ?l7 ?c7 ?k7 ?a8 ?l8 ?c8 ?k8 ?a9 ?l9 ?c9 ?k9 ?a10 ?l10 ?c10 ?k10 ?a11 ?l11 ?c11 ?k11 ?z_abs ?z_int ?z_isinstance ?z_len ?z_list ?z_max ?z_min ?z_range ?z_tuple
    (case a0 => k_is); (case l0 => k_is); (case c0 => k_is); (case k0 => k_is)
    (case a1 => k_is); (case l1 => k_is); (case c1 => k_is); (case k1 => k_is)
    (case a2 => k_is); (case l2 => k_is); (case c2 => k_is); (case k2 => k_is)
    (case a3 => k_is); (case l3 => k_is); (case c3 => k_is); (case k3 => k_is)
    (case a4 => k_is); (case l4 => k_is); (case c4 => k_is); (case k4 => k_is)
    (case a5 => k_is); (case l5 => k_is); (case c5 => k_is); (case k5 => k_is)
    (case a6 => k_is); (case l6 => k_is); (case c6 => k_is); (case k6 => k_is)
    (case a7 => k_is); (case l7 => k_is); (case c7 => k_is); (case k7 => k_is)
    (case a8 => k_is); (case l8 => k_is); (case c8 => k_is); (case k8 => k_is)
    (case a9 => k_is); (case l9 => k_is); (case c9 => k_is); (case k9 => k_is)
    (case a10 => k_is); (case l10 => k_is); (case c10 => k_is); (case k10 => k_is)
    (case a11 => k_is); (case l11 => k_is); (case c11 => k_is); (case k11 => k_is)
    (case z_abs => k_is)
    (case z_int => k_is)
    (case z_isinstance => k_is)
    (case z_len => k_is)
    (case z_list => k_is)
    (case z_max => k_is)
    (case z_min => k_is)
    (case z_range => k_is)
    (case z_tuple => k_is)

