import PyProof.Rows.All
import HandS.ForMost
import HandS.Wide
import KE.SortData
import KE.DataMinMax
import PySem.Challenge.RW_cutwright_k87_shared_amounts
set_option Elab.async false
set_option linter.all false
set_option maxRecDepth 100000
set_option Elab.async false
set_option linter.all false
set_option maxRecDepth 100000
namespace Z
open PySem PySem.Spec PyProof.Rows L2

abbrev Fg := PySem.W.Frag
def keyD : Key → PyData
  | .inl i => .int i
  | .inr s => .str s

mutual
inductive Rep (K : Fg) (F : Hp) : V → PyData → Prop
  | non : Rep K F .non .none
  | bl (b : Bool) : Rep K F (.bl b) (.bool b)
  | int (i : Int) : Rep K F (.int i) (.int i)
  | str (x : Str) : Rep K F (.str x) (.str x)
  | lst {a : Addr} {xs : List V} {ds : List PyData} : F a = some (.lst xs) → RepAll K F xs ds → Rep K F (.ref a) (.list ds)
  | tup {a : Addr} {xs : List V} {ds : List PyData} : SqT K F a xs → RepAll K F xs ds → Rep K F (.ref a) (.tuple ds)
  | dK {a : Addr} {kvs : List (Key × V)} {ds : List PyData} : Rd F a (.dK kvs) → RepAll K F (kvs.map (·.2)) ds → Rep K F (.ref a) (.dict ((kvs.map fun p => keyD p.1).zip ds))
  | dT {a : Addr} {kvs : List (List Key × V)} {ds : List PyData} : Rd F a (.dT kvs) → RepAll K F (kvs.map (·.2)) ds → Rep K F (.ref a) (.dict ((kvs.map fun p => PyData.tuple (p.1.map keyD)).zip ds))
inductive RepAll (K : Fg) (F : Hp) : List V → List PyData → Prop
  | nil : RepAll K F [] []
  | cons {v : V} {vs : List V} {d : PyData} {ds : List PyData} : Rep K F v d → RepAll K F vs ds → RepAll K F (v :: vs) (d :: ds)
end

theorem same_rd {F F' : Hp} (s : Same F F') {a : Addr} {u : HO} (h : Rd F a u) : Rd F' a u := by
  rcases h with h | ⟨o, h⟩
  · exact .inl (s _ _ h)
  · exact .inr ⟨o, s _ _ h⟩
theorem same_sqT {K : Fg} {F F' : Hp} (s : Same F F') {a : Addr} {xs : List V} (h : SqT K F a xs) : SqT K F' a xs := by
  rcases h with h | h
  · exact .inl (same_rd s h)
  · exact .inr h
mutual
theorem Rep.mono {K : Fg} {F F' : Hp} (s : Same F F') : ∀ {v : V} {d : PyData}, Rep K F v d → Rep K F' v d
  | _, _, .non => .non
  | _, _, .bl b => .bl b
  | _, _, .int i => .int i
  | _, _, .str x => .str x
  | _, _, .lst h r => .lst (s _ _ h) (RepAll.mono s r)
  | _, _, .tup h r => .tup (same_sqT s h) (RepAll.mono s r)
  | _, _, .dK h r => .dK (same_rd s h) (RepAll.mono s r)
  | _, _, .dT h r => .dT (same_rd s h) (RepAll.mono s r)
theorem RepAll.mono {K : Fg} {F F' : Hp} (s : Same F F') : ∀ {vs : List V} {ds : List PyData}, RepAll K F vs ds → RepAll K F' vs ds
  | _, _, .nil => .nil
  | _, _, .cons h r => .cons (Rep.mono s h) (RepAll.mono s r)
end
theorem RepAll.length {K : Fg} {F : Hp} : ∀ {vs : List V} {ds : List PyData}, RepAll K F vs ds → vs.length = ds.length
  | _, _, .nil => rfl
  | _, _, .cons _ r => congrArg (· + 1) (RepAll.length r)
theorem RepAll.app {K : Fg} {F : Hp} : ∀ {vs ws : List V} {ds es : List PyData}, RepAll K F vs ds → RepAll K F ws es → RepAll K F (vs ++ ws) (ds ++ es)
  | _, _, _, _, .nil, q => q
  | _, _, _, _, .cons h r, q => .cons h (RepAll.app r q)
theorem RepAll.get {K : Fg} {F : Hp} : ∀ {vs : List V} {ds : List PyData} {i : Nat} {d : PyData}, RepAll K F vs ds → ds[i]? = some d → ∃ v, vs[i]? = some v ∧ Rep K F v d
  | _, _, _, _, .nil, e => by simp at e
  | _, _, 0, _, .cons h _, e => ⟨_, rfl, by simp at e; exact e ▸ h⟩
  | _, _, i + 1, _, .cons _ r, e => by
    obtain ⟨v, h1, h2⟩ := RepAll.get (i := i) r (by simpa using e)
    exact ⟨v, by simpa using h1, h2⟩
theorem RepAll.getv {K : Fg} {F : Hp} : ∀ {vs : List V} {ds : List PyData} {i : Nat} {v : V}, RepAll K F vs ds → vs[i]? = some v → ∃ d, ds[i]? = some d ∧ Rep K F v d
  | _, _, _, _, .nil, e => by simp at e
  | _, _, 0, _, .cons h _, e => ⟨_, rfl, by simp at e; exact e ▸ h⟩
  | _, _, i + 1, _, .cons _ r, e => by
    obtain ⟨v, h1, h2⟩ := RepAll.getv (i := i) r (by simpa using e)
    exact ⟨v, by simpa using h1, h2⟩
theorem RepAll.set {K : Fg} {F : Hp} {v : V} {d : PyData} (h : Rep K F v d) : ∀ {vs : List V} {ds : List PyData} {i : Nat}, RepAll K F vs ds → RepAll K F (vs.set i v) (ds.set i d)
  | _, _, _, .nil => .nil
  | _, _, 0, .cons _ r => .cons h r
  | _, _, i + 1, .cons q r => .cons q (RepAll.set h r)
theorem RepAll.take {K : Fg} {F : Hp} : ∀ {vs : List V} {ds : List PyData} (n : Nat), RepAll K F vs ds → RepAll K F (vs.take n) (ds.take n)
  | _, _, 0, _ => .nil
  | _, _, _ + 1, .nil => .nil
  | _, _, n + 1, .cons h r => .cons h (RepAll.take n r)
theorem RepAll.drop {K : Fg} {F : Hp} : ∀ {vs : List V} {ds : List PyData} (n : Nat), RepAll K F vs ds → RepAll K F (vs.drop n) (ds.drop n)
  | _, _, 0, r => r
  | _, _, _ + 1, .nil => .nil
  | _, _, n + 1, .cons _ r => RepAll.drop n r

/-! ### what a value of Lean stands for -/
structure Enc (τ : Type) where
  enc : τ → PyData
  inj : ∀ a b, enc a = enc b → a = b
def eI : Enc Int := ⟨.int, fun _ _ h => by injection h⟩
def eB : Enc Bool := ⟨.bool, fun _ _ h => by injection h⟩
def eS : Enc Str := ⟨.str, fun _ _ h => by injection h⟩
def eN : Enc Unit := ⟨fun _ => .none, fun _ _ _ => rfl⟩
def eD : Enc PyData := ⟨id, fun _ _ h => h⟩
theorem map_inj {α β : Type} {f : α → β} (h : ∀ a b, f a = f b → a = b) : ∀ {xs ys : List α}, xs.map f = ys.map f → xs = ys
  | [], [], _ => rfl
  | [], _ :: _, e => by simp at e
  | _ :: _, [], e => by simp at e
  | x :: xs, y :: ys, e => by
    simp only [List.map_cons, List.cons.injEq] at e
    rw [h _ _ e.1, map_inj h e.2]
def eL {τ : Type} (E : Enc τ) : Enc (List τ) := ⟨fun xs => .list (xs.map E.enc), fun _ _ h => map_inj E.inj (by injection h)⟩
def eV {τ : Type} (E : Enc τ) : Enc (List τ) := ⟨fun xs => .tuple (xs.map E.enc), fun _ _ h => map_inj E.inj (by injection h)⟩
def eT2 {α β : Type} (A : Enc α) (B : Enc β) : Enc (α × β) := ⟨fun p => .tuple [A.enc p.1, B.enc p.2], fun a b h => by
  injection h with h
  simp only [List.cons.injEq, and_true] at h
  exact Prod.ext (A.inj _ _ h.1) (B.inj _ _ h.2)⟩
def eT3 {α β γ : Type} (A : Enc α) (B : Enc β) (G : Enc γ) : Enc (α × β × γ) := ⟨fun p => .tuple [A.enc p.1, B.enc p.2.1, G.enc p.2.2], fun a b h => by
  injection h with h
  simp only [List.cons.injEq, and_true] at h
  exact Prod.ext (A.inj _ _ h.1) (Prod.ext (B.inj _ _ h.2.1) (G.inj _ _ h.2.2))⟩
def eT4 {α β γ δ : Type} (A : Enc α) (B : Enc β) (G : Enc γ) (D : Enc δ) : Enc (α × β × γ × δ) := ⟨fun p => .tuple [A.enc p.1, B.enc p.2.1, G.enc p.2.2.1, D.enc p.2.2.2], fun a b h => by
  injection h with h
  simp only [List.cons.injEq, and_true] at h
  exact Prod.ext (A.inj _ _ h.1) (Prod.ext (B.inj _ _ h.2.1) (Prod.ext (G.inj _ _ h.2.2.1) (D.inj _ _ h.2.2.2)))⟩
def eT5 {α β γ δ ε : Type} (A : Enc α) (B : Enc β) (G : Enc γ) (D : Enc δ) (E : Enc ε) : Enc (α × β × γ × δ × ε) := ⟨fun p => .tuple [A.enc p.1, B.enc p.2.1, G.enc p.2.2.1, D.enc p.2.2.2.1, E.enc p.2.2.2.2], fun a b h => by
  injection h with h
  simp only [List.cons.injEq, and_true] at h
  exact Prod.ext (A.inj _ _ h.1) (Prod.ext (B.inj _ _ h.2.1) (Prod.ext (G.inj _ _ h.2.2.1) (Prod.ext (D.inj _ _ h.2.2.2.1) (E.inj _ _ h.2.2.2.2))))⟩
def eO {τ : Type} (E : Enc τ) (hn : ∀ a, E.enc a ≠ .none) : Enc (Option τ) := ⟨fun o => match o with | none => .none | some a => E.enc a, fun a b h => by
  cases a <;> cases b
  · rfl
  · exact absurd h.symm (hn _)
  · exact absurd h (hn _)
  · exact congrArg some (E.inj _ _ h)⟩

/-! ### how a slot holds a value: shared data, or objects of its own -/
def grow (F H : Hp) (fp : List Addr) : Hp := fun a => if a ∈ fp then H a else F a
structure Stor (τ : Type) where
  rel : Fg → Hp → Hp → List Addr → V → τ → Prop
  monoF : ∀ {K F F' H fp v x}, Same F F' → rel K F H fp v x → rel K F' H fp v x
  frame : ∀ {K F H H' fp v x}, (∀ a ∈ fp, H' a = H a) → rel K F H fp v x → rel K F H' fp v x
/-- it may be made shared data -/
structure Frz {τ : Type} (S : Stor τ) (E : Enc τ) : Prop where
  frz : ∀ {K F H fp v x}, (∀ a ∈ fp, F a = none) → S.rel K F H fp v x → Rep K (grow F H fp) v (E.enc x)
/-- it owns nothing: it may be told twice -/
structure Cp {τ : Type} (S : Stor τ) : Prop where
  nil : ∀ {K F H fp v x}, S.rel K F H fp v x → fp = []
theorem grow_nil {F H : Hp} : grow F H [] = F := by funext a; simp [grow]
theorem same_grow {F H : Hp} {fp : List Addr} (h : ∀ a ∈ fp, F a = none) : Same F (grow F H fp) := fun a o e => by
  unfold grow
  by_cases m : a ∈ fp
  · rw [h a m] at e; cases e
  · rw [if_neg m]; exact e
theorem grow_sub {F H : Hp} {fp fq : List Addr} (h : ∀ a ∈ fq, F a = none) (s : ∀ a ∈ fp, a ∈ fq) : Same (grow F H fp) (grow F H fq) := fun a o e => by
  unfold grow at e ⊢
  by_cases m : a ∈ fp
  · rw [if_pos m] at e; rw [if_pos (s a m)]; exact e
  · rw [if_neg m] at e
    by_cases m' : a ∈ fq
    · rw [h a m'] at e; cases e
    · rw [if_neg m']; exact e
def it {τ : Type} (E : Enc τ) : Stor τ where
  rel := fun K F _ fp v x => fp = [] ∧ Rep K F v (E.enc x)
  monoF := fun s h => ⟨h.1, h.2.mono s⟩
  frame := fun _ h => h
theorem fz_it {τ : Type} {E : Enc τ} : Frz (it E) E := ⟨fun _ h => by obtain ⟨rfl, r⟩ := h; rw [grow_nil]; exact r⟩
theorem cp_it {τ : Type} {E : Enc τ} : Cp (it E) := ⟨fun h => h.1⟩
/-- a list of ints that stands for good (the script) -/
def scr : Stor (List Int) where
  rel := fun K F _ fp v xs => fp = [] ∧ ∃ a, v = .ref a ∧ SqL K F a (xs.map V.int)
  monoF := fun s h => by obtain ⟨e, a, e2, q⟩ := h; exact ⟨e, a, e2, s.seq q⟩
  frame := fun _ h => h
theorem cp_scr : Cp scr := ⟨fun h => h.1⟩
inductive RelAll {τ : Type} (R : List Addr → V → τ → Prop) : List Addr → List V → List τ → Prop
  | nil : RelAll R [] [] []
  | cons {fp fps v vs x xs} : R fp v x → RelAll R fps vs xs → RelAll R (fp ++ fps) (v :: vs) (x :: xs)
theorem RelAll.imp {τ : Type} {R R' : List Addr → V → τ → Prop} : ∀ {fp : List Addr} {vs : List V} {xs : List τ}, (∀ fq v x, (∀ a ∈ fq, a ∈ fp) → R fq v x → R' fq v x) → RelAll R fp vs xs → RelAll R' fp vs xs
  | _, _, _, _, .nil => .nil
  | _, _, _, f, .cons h r => .cons (f _ _ _ (fun a m => List.mem_append_left _ m) h) (RelAll.imp (fun fq v x s q => f fq v x (fun a m => List.mem_append_right _ (s a m)) q) r)
theorem RelAll.rep {τ : Type} {E : Enc τ} {K : Fg} {F : Hp} {R : List Addr → V → τ → Prop} : ∀ {fp : List Addr} {vs : List V} {xs : List τ}, (∀ fq v x, (∀ a ∈ fq, a ∈ fp) → R fq v x → Rep K F v (E.enc x)) → RelAll R fp vs xs → RepAll K F vs (xs.map E.enc)
  | _, _, _, _, .nil => .nil
  | _, _, _, f, .cons h r => .cons (f _ _ _ (fun a m => List.mem_append_left _ m) h) (RelAll.rep (fun fq v x s q => f fq v x (fun a m => List.mem_append_right _ (s a m)) q) r)
def ls {τ : Type} (S : Stor τ) : Stor (List τ) where
  rel := fun K F H fp v xs => ∃ p vs fps, v = .ref p ∧ H p = some (.lst vs) ∧ RelAll (S.rel K F H) fps vs xs ∧ fp = p :: fps
  monoF := fun s h => by
    obtain ⟨p, vs, fps, rfl, hp, r, rfl⟩ := h
    exact ⟨p, vs, fps, rfl, hp, r.imp fun _ _ _ _ q => S.monoF s q, rfl⟩
  frame := fun f h => by
    obtain ⟨p, vs, fps, rfl, hp, r, rfl⟩ := h
    exact ⟨p, vs, fps, rfl, by rw [f p List.mem_cons_self]; exact hp, r.imp fun fq _ _ s q => S.frame (fun a m => f a (List.mem_cons_of_mem _ (s a m))) q, rfl⟩
theorem fz_ls {τ : Type} {S : Stor τ} {E : Enc τ} (fz : Frz S E) : Frz (ls S) (eL E) := ⟨fun n h => by
  obtain ⟨p, vs, fps, rfl, hp, r, rfl⟩ := h
  refine .lst ?_ (r.rep fun fq v x s q => ?_)
  · show (if p ∈ p :: fps then _ else _) = _
    rw [if_pos List.mem_cons_self]; exact hp
  · exact (fz.frz (fun a m => n a (List.mem_cons_of_mem _ (s a m))) q).mono (grow_sub n fun a m => List.mem_cons_of_mem _ (s a m))⟩

inductive Slot : Type 1
  | un
  | st (w : Option V) (τ : Type) (S : Stor τ) (x : τ)
  | lk (τ : Type) (S : Stor τ) (x : τ)
abbrev Env := List Slot
abbrev Slot.sh {τ : Type} (E : Enc τ) (x : τ) : Slot := .st none τ (it E) x
abbrev Slot.ow {τ : Type} (S : Stor τ) (x : τ) : Slot := .st none τ S x

structure Ck where
  K : Fg
  B : Hp
  F0 : Hp
  He : Hp
  io : List Addr
def SlotOk (C : Ck) (F H : Hp) (o : Option V) : Slot → List Addr → Prop
  | .un, fp => fp = []
  | .st w _ S x, fp => ∃ v, o = some v ∧ S.rel C.K F H fp v x ∧ (match w with | none => ∀ a ∈ fp, C.He a = none | some v0 => v = v0 ∧ ∀ a ∈ fp, C.He a = none ∨ a ∈ C.io)
  | .lk _ S x, fp => fp = [] ∧ ∃ v fq, o = some v ∧ S.rel C.K F H fq v x ∧ ∀ a ∈ fq, C.B a ≠ none
theorem SlotOk.go {C : Ck} {F F' H H' : Hp} {o : Option V} {s : Slot} {fp : List Addr} (sF : Same F F') (hB : ∀ a, C.B a ≠ none → H' a = H a) (h : ∀ a ∈ fp, H' a = H a) (k : SlotOk C F H o s fp) : SlotOk C F' H' o s fp := by
  cases s with
  | un => exact k
  | st w τ S x => obtain ⟨v, e, r, q⟩ := k; exact ⟨v, e, S.monoF sF (S.frame h r), q⟩
  | lk τ S x => obtain ⟨e, v, fq, e2, r, q⟩ := k; exact ⟨e, v, fq, e2, S.monoF sF (S.frame (fun a m => hB a (q a m)) r), q⟩
/-- the footprints of the slots -/
structure Fps (C : Ck) (F H : Hp) (σ : List (Option V)) (env : Env) (fp : Nat → List Addr) : Prop where
  ok : ∀ i s, env[i]? = some s → SlotOk C F H (σ[i]?.join) s (fp i)
  own : ∀ i, i < env.length → ∀ a ∈ fp i, C.B a = none ∧ F a = none ∧ H a ≠ none
  sep : ∀ i j, i < env.length → j < env.length → ∀ a, a ∈ fp i → a ∈ fp j → i = j
  nd : ∀ i, i < env.length → (fp i).Nodup
structure ER (C : Ck) (F H : Hp) (σ : List (Option V)) (env : Env) : Prop where
  sB : Same C.B H
  sF : Same F H
  gr : ∀ a, F a ≠ none → C.F0 a ≠ none ∨ C.He a = none
  up : ∀ a, C.He a ≠ none → H a ≠ none
  len : σ.length = env.length
  sl : ∃ fp, Fps C F H σ env fp

section
variable {C : Ck} {F F' H H' : Hp} {σ : List (Option V)} {env : Env} {o : Option V} {s : Slot} {τ : Type} {S : Stor τ} {E : Enc τ} {x : τ} {v : V} {w : Option V} {i : Nat} {p : Addr} {u : HO}
theorem same_some {H H' : Hp} (s : Same H H') {a : Addr} (h : H a ≠ none) : H' a ≠ none := by
  cases e : H a with
  | none => exact absurd e h
  | some o => rw [s a o e]; exact fun z => by cases z
theorem same_eq {H H' : Hp} (s : Same H H') {a : Addr} (h : H a ≠ none) : H' a = H a := by
  cases e : H a with
  | none => exact absurd e h
  | some o => exact s a o e
theorem ER.look (h : ER C F H σ env) (e : env[i]? = some (.st w τ S x)) : ∃ v fp, σ[i]? = some (some v) ∧ S.rel C.K F H fp v x := by
  obtain ⟨fp, q⟩ := h.sl
  obtain ⟨v, e1, r, _⟩ := q.ok i _ e
  refine ⟨v, fp i, ?_, r⟩
  cases z : σ[i]? with
  | none => rw [z] at e1; cases e1
  | some o => rw [z] at e1; exact congrArg some e1
theorem ER.lookK (h : ER C F H σ env) (e : env[i]? = some (.lk τ S x)) : ∃ v fp, σ[i]? = some (some v) ∧ S.rel C.K F H fp v x := by
  obtain ⟨fp, q⟩ := h.sl
  obtain ⟨_, v, fq, e1, r, _⟩ := q.ok i _ e
  refine ⟨v, fq, ?_, r⟩
  cases z : σ[i]? with
  | none => rw [z] at e1; cases e1
  | some o => rw [z] at e1; exact congrArg some e1
theorem ER.rep (h : ER C F H σ env) (e : env[i]? = some (.st w τ (it E) x)) : ∃ v, σ[i]? = some (some v) ∧ Rep C.K F v (E.enc x) := by
  obtain ⟨v, fp, e1, r⟩ := h.look e
  exact ⟨v, e1, r.2⟩
theorem Fps.push {fp : Nat → List Addr} (q : Fps C F H σ env fp) {fq : List Addr} (ok : SlotOk C F H o s fq) (ow : ∀ a ∈ fq, C.B a = none ∧ F a = none ∧ H a ≠ none) (nd : fq.Nodup) (df : ∀ i, i < env.length → ∀ a ∈ fp i, a ∉ fq) :
    Fps C F H (o :: σ) (s :: env) (fun | 0 => fq | i + 1 => fp i) := by
  refine ⟨?_, ?_, ?_, ?_⟩
  · intro i s' e
    cases i with
    | zero => simp at e; subst e; exact ok
    | succ i => exact q.ok i s' (by simpa using e)
  · intro i hi a ha
    cases i with
    | zero => exact ow a ha
    | succ i => exact q.own i (by simpa using hi) a ha
  · intro i j hi hj a ha hb
    cases i with
    | zero => cases j with
      | zero => rfl
      | succ j => exact absurd ha (df j (by simpa using hj) a hb)
    | succ i => cases j with
      | zero => exact absurd hb (df i (by simpa using hi) a ha)
      | succ j => exact congrArg (· + 1) (q.sep i j (by simpa using hi) (by simpa using hj) a ha hb)
  · intro i hi
    cases i with
    | zero => exact nd
    | succ i => exact q.nd i (by simpa using hi)
theorem ER.push0 (h : ER C F H σ env) (ok : SlotOk C F H o s []) : ER C F H (o :: σ) (s :: env) := by
  obtain ⟨fp, q⟩ := h.sl
  exact ⟨h.sB, h.sF, h.gr, h.up, by simp [h.len], _, q.push ok (fun _ m => nomatch m) List.nodup_nil fun _ _ _ _ m => nomatch m⟩
theorem ER.pushSh (h : ER C F H σ env) (r : Rep C.K F v (E.enc x)) : ER C F H (some v :: σ) (.st none τ (it E) x :: env) :=
  h.push0 ⟨v, rfl, ⟨rfl, r⟩, fun _ m => nomatch m⟩
theorem ER.pushUn (h : ER C F H σ env) : ER C F H (o :: σ) (.un :: env) := h.push0 rfl
theorem ER.pop (h : ER C F H (o :: σ) (s :: env)) : ER C F H σ env := by
  obtain ⟨fp, q⟩ := h.sl
  exact ⟨h.sB, h.sF, h.gr, h.up, by simpa using h.len, fun i => fp (i + 1), fun i s e => q.ok (i + 1) s (by simpa using e), fun i hi => q.own (i + 1) (by simpa using hi),
    fun i j hi hj a ha hb => Nat.succ.inj (q.sep (i + 1) (j + 1) (by simpa using hi) (by simpa using hj) a ha hb), fun i hi => q.nd (i + 1) (by simpa using hi)⟩
theorem ER.popN : ∀ {vs : List (Option V)} {es : Env}, vs.length = es.length → ER C F H (vs ++ σ) (es ++ env) → ER C F H σ env
  | [], [], _, h => h
  | [], _ :: _, e, _ => by simp at e
  | _ :: _, [], e, _ => by simp at e
  | _ :: vs, _ :: es, e, h => ER.popN (vs := vs) (es := es) (by simpa using e) h.pop
theorem Fps.grow {fp : Nat → List Addr} (h : ER C F H σ env) (q : Fps C F H σ env fp) (sH : Same H H') (sF : Same F F') (n : ∀ a, F' a ≠ none → F a ≠ none ∨ H a = none) : Fps C F' H' σ env fp := by
  refine ⟨fun i s e => ?_, fun i hi a ha => ?_, q.sep, q.nd⟩
  · refine (q.ok i s e).go sF (fun a m => same_eq sH (same_some h.sB m)) fun a ha => same_eq sH ?_
    exact (q.own i (by obtain ⟨hi, _⟩ := List.getElem?_eq_some_iff.mp e; exact hi) a ha).2.2
  · obtain ⟨b, f, c⟩ := q.own i hi a ha
    refine ⟨b, ?_, same_some sH c⟩
    cases e : F' a with
    | none => rfl
    | some o =>
      rcases n a (by rw [e]; exact fun z => by cases z) with z | z
      · exact absurd f z
      · exact absurd z c
/-- the heap grows by objects that no slot holds; what is frozen may grow by new ones -/
theorem ER.grow (h : ER C F H σ env) (sH : Same H H') (sF : Same F F') (sF' : Same F' H') (n : ∀ a, F' a ≠ none → F a ≠ none ∨ H a = none) : ER C F' H' σ env := by
  obtain ⟨fp, q⟩ := h.sl
  refine ⟨fun a o e => sH a o (h.sB a o e), sF', fun a m => ?_, fun a m => same_some sH (h.up a m), h.len, fp, q.grow h sH sF n⟩
  rcases n a m with z | z
  · exact h.gr a z
  · refine .inr ?_
    cases e : C.He a with
    | none => rfl
    | some o => exact absurd z (h.up a (by rw [e]; exact fun z => by cases z))
theorem same_new (n : H p = none) : Same H (upd H p u) := fun b o e => by rw [upd_ne (ne_of_none e n)]; exact e
theorem ER.fnone (h : ER C F H σ env) (n : H p = none) : F p = none := by
  cases e : F p with
  | none => rfl
  | some o => rw [h.sF p o e] at n; cases n
theorem ER.bnone (h : ER C F H σ env) (n : H p = none) : C.B p = none := by
  cases e : C.B p with
  | none => rfl
  | some o => rw [h.sB p o e] at n; cases n
theorem ER.hnone (h : ER C F H σ env) (n : H p = none) : C.He p = none := by
  cases e : C.He p with
  | none => rfl
  | some o => exact absurd n (h.up p (by rw [e]; exact fun z => by cases z))
theorem ER.newF (h : ER C F H σ env) (n : H p = none) : ER C (upd F p u) (upd H p u) σ env := by
  refine h.grow (same_new n) (same_new (h.fnone n)) (fun a o e => ?_) fun a m => ?_
  · by_cases z : a = p
    · subst z; rw [upd_same] at e ⊢; exact e
    · rw [upd_ne z] at e ⊢; exact h.sF a o e
  · by_cases z : a = p
    · subst z; exact .inr n
    · rw [upd_ne z] at m; exact .inl m
theorem ER.newH (h : ER C F H σ env) (n : H p = none) : ER C F (upd H p u) σ env :=
  h.grow (same_new n) (fun _ _ e => e) (fun a o e => same_new n a o (h.sF a o e)) fun a m => .inl m
/-- a new object of one's own -/
theorem ER.newOw (h : ER C F H σ env) (n : H p = none) (r : S.rel C.K F (upd H p u) [p] v x) : ER C F (upd H p u) (some v :: σ) (.st none τ S x :: env) := by
  have h' := h.newH (u := u) n
  obtain ⟨fp, q⟩ := h.sl
  have q' := q.grow h (same_new (u := u) n) (fun _ _ e => e) fun a m => .inl m
  refine ⟨h'.sB, h'.sF, h'.gr, h'.up, by simp [h'.len], _, q'.push (fq := [p]) ⟨v, rfl, r, fun a m => ?_⟩ (fun a m => ?_) (by simp) fun i hi a ha m => ?_⟩
  · simp at m; subst m; exact h.hnone n
  · simp at m; subst m; exact ⟨h.bnone n, h.fnone n, by rw [upd_same]; exact fun z => by cases z⟩
  · simp at m; subst m; exact (q.own i hi a ha).2.2 n
/-- a slot's objects are changed by themselves -/
theorem ER.mut (h : ER C F H σ env) (e : env[i]? = some (.st w τ S x)) : ∃ v fp, σ[i]? = some (some v) ∧ S.rel C.K F H fp v x ∧ fp.Nodup ∧ (∀ a ∈ fp, C.B a = none ∧ F a = none ∧ H a ≠ none) ∧
    ∀ (τ' : Type) (S' : Stor τ') (x' : τ') (H' : Hp) (fp' : List Addr), (∀ a, a ∉ fp → H a ≠ none → H' a = H a) → (∀ a, H a ≠ none → H' a ≠ none) → S'.rel C.K F H' fp' v x' → fp'.Nodup → (∀ a ∈ fp', H' a ≠ none ∧ (a ∈ fp ∨ H a = none)) → ER C F H' σ (env.set i (.st w τ' S' x')) := by
  obtain ⟨fp, q⟩ := h.sl
  obtain ⟨hi, _⟩ := List.getElem?_eq_some_iff.mp e
  obtain ⟨v, e1, r, k⟩ := q.ok i _ e
  have e1' : σ[i]? = some (some v) := by
    cases z : σ[i]? with
    | none => rw [z] at e1; cases e1
    | some o => rw [z] at e1; exact congrArg some e1
  refine ⟨v, fp i, e1', r, q.nd i hi, q.own i hi, fun τ' S' x' H' fp' hk hs r' nd' sub => ?_⟩
  have bne : ∀ a, C.B a ≠ none → a ∉ fp i := fun a m z => m (q.own i hi a z).1
  refine ⟨fun a o m => ?_, fun a o m => ?_, h.gr, fun a m => hs a (h.up a m), by simp [h.len], fun j => if j = i then fp' else fp j, fun j s' ej => ?_, fun j hj a ha => ?_, fun j l hj hl a ha hb => ?_, fun j hj => ?_⟩
  · have m' : C.B a ≠ none := by rw [m]; exact fun z => by cases z
    rw [hk a (bne a m') (same_some h.sB m')]; exact h.sB a o m
  · have m' : F a ≠ none := by rw [m]; exact fun z => by cases z
    rw [hk a (fun z => m' (q.own i hi a z).2.1) (same_some h.sF m')]; exact h.sF a o m
  · by_cases z : j = i
    · subst z
      rw [List.getElem?_set_self hi] at ej
      cases ej
      refine ⟨v, e1, ?_, ?_⟩
      · simpa using r'
      · simp only [if_pos]
        cases w with
        | none =>
          intro a ha
          rcases (sub a ha).2 with m | m
          · exact k a m
          · exact h.hnone m
        | some v0 =>
          refine ⟨k.1, fun a ha => ?_⟩
          rcases (sub a ha).2 with m | m
          · exact k.2 a m
          · exact .inl (h.hnone m)
    · rw [List.getElem?_set_ne (fun y => z y.symm)] at ej
      have hj : j < env.length := (List.getElem?_eq_some_iff.mp ej).1
      simp only [if_neg z]
      refine (q.ok j s' ej).go (fun _ _ y => y) (fun a m => hk a (bne a m) (same_some h.sB m)) fun a ha => ?_
      exact hk a (fun y => z (q.sep j i hj hi a ha y)) (q.own j hj a ha).2.2
  · have hj' : j < env.length := by simpa using hj
    by_cases z : j = i
    · subst z
      simp only [if_pos] at ha
      obtain ⟨m1, m⟩ := sub a ha
      rcases m with m | m
      · exact ⟨(q.own j hi a m).1, (q.own j hi a m).2.1, m1⟩
      · exact ⟨h.bnone m, h.fnone m, m1⟩
    · simp only [if_neg z] at ha
      obtain ⟨b, f, c⟩ := q.own j hj' a ha
      exact ⟨b, f, hs a c⟩
  · have hj' : j < env.length := by simpa using hj
    have hl' : l < env.length := by simpa using hl
    by_cases zj : j = i
    · by_cases zl : l = i
      · rw [zj, zl]
      · simp only [if_pos zj] at ha
        simp only [if_neg zl] at hb
        rcases (sub a ha).2 with m | m
        · rw [zj]; exact q.sep i l hi hl' a m hb
        · exact absurd m (q.own l hl' a hb).2.2
    · simp only [if_neg zj] at ha
      by_cases zl : l = i
      · simp only [if_pos zl] at hb
        rcases (sub a hb).2 with m | m
        · rw [zl]; exact q.sep j i hj' hi a ha m
        · exact absurd m (q.own j hj' a ha).2.2
      · simp only [if_neg zl] at hb
        exact q.sep j l hj' hl' a ha hb
  · have hj' : j < env.length := by simpa using hj
    by_cases z : j = i
    · simp only [if_pos z]; exact nd'
    · simp only [if_neg z]; exact q.nd j hj'
/-- what a slot owns is frozen: from here on it is shared -/
theorem ER.freeze (h : ER C F H σ env) (fz : Frz S E) (e : env[i]? = some (.st none τ S x)) : ∃ F', Same F F' ∧ ER C F' H σ (env.set i (.st none τ (it E) x)) := by
  obtain ⟨fp, q⟩ := h.sl
  obtain ⟨hi, _⟩ := List.getElem?_eq_some_iff.mp e
  obtain ⟨v, e1, r, k⟩ := q.ok i _ e
  have fn : ∀ a ∈ fp i, F a = none := fun a m => (q.own i hi a m).2.1
  have sF : Same F (Z.grow F H (fp i)) := same_grow fn
  have bne : ∀ a, C.B a ≠ none → a ∉ fp i := fun a m z => m (q.own i hi a z).1
  refine ⟨Z.grow F H (fp i), sF, h.sB, fun a o m => ?_, fun a m => ?_, h.up, by simp [h.len], fun j => if j = i then [] else fp j, fun j s' ej => ?_, fun j hj a ha => ?_, fun j l hj hl a ha hb => ?_, fun j hj => ?_⟩
  · unfold Z.grow at m
    by_cases z : a ∈ fp i
    · rw [if_pos z] at m; exact m
    · rw [if_neg z] at m; exact h.sF a o m
  · unfold Z.grow at m
    by_cases z : a ∈ fp i
    · exact .inr (k a z)
    · rw [if_neg z] at m; exact h.gr a m
  · by_cases z : j = i
    · subst z
      rw [List.getElem?_set_self hi] at ej
      cases ej
      simp only [if_pos]
      exact ⟨v, e1, ⟨rfl, fz.frz fn r⟩, fun _ m => nomatch m⟩
    · rw [List.getElem?_set_ne (fun y => z y.symm)] at ej
      simp only [if_neg z]
      exact (q.ok j s' ej).go sF (fun a m => rfl) fun a ha => rfl
  · have hj' : j < env.length := by simpa using hj
    by_cases z : j = i
    · simp [if_pos z] at ha
    · simp only [if_neg z] at ha
      obtain ⟨b, f, c⟩ := q.own j hj' a ha
      refine ⟨b, ?_, c⟩
      unfold Z.grow
      rw [if_neg (fun y => z (q.sep j i hj' hi a ha y))]; exact f
  · have hj' : j < env.length := by simpa using hj
    have hl' : l < env.length := by simpa using hl
    by_cases zj : j = i
    · simp [if_pos zj] at ha
    · by_cases zl : l = i
      · simp [if_pos zl] at hb
      · simp only [if_neg zj] at ha
        simp only [if_neg zl] at hb
        exact q.sep j l hj' hl' a ha hb
  · have hj' : j < env.length := by simpa using hj
    by_cases z : j = i
    · simp [if_pos z]
    · simp only [if_neg z]; exact q.nd j hj'
/-- slots renamed: f tells where each new slot stood; each is taken once or owns nothing -/
theorem ER.perm {σ' : List (Option V)} {env' : Env} (h : ER C F H σ env) (len : σ'.length = env'.length) (f : Nat → Nat)
    (hf : ∀ j s', env'[j]? = some s' → s' = .un ∨ (env[f j]? = some s' ∧ σ'[j]?.join = σ[f j]?.join ∧ ∀ l s'', env'[l]? = some s'' → s'' ≠ .un → f l = f j → l = j)) : ER C F H σ' env' := by
  classical
  obtain ⟨fp, q⟩ := h.sl
  refine ⟨h.sB, h.sF, h.gr, h.up, len, fun j => match env'[j]? with | some .un => [] | some _ => fp (f j) | none => [], fun j s' ej => ?_, fun j hj a ha => ?_, fun j l hj hl a ha hb => ?_, fun j hj => ?_⟩
  · simp only [ej]
    rcases hf j s' ej with rfl | ⟨e, eo, _⟩
    · exact rfl
    · have := q.ok (f j) s' e
      rw [← eo] at this
      cases s' with
      | un => exact rfl
      | st _ _ _ _ => exact this
      | lk _ _ _ => exact this
  · cases ej : env'[j]? with
    | none => rw [ej] at ha; cases ha
    | some s' =>
      rcases hf j s' ej with rfl | ⟨e, eo, _⟩
      · rw [ej] at ha; cases ha
      · have ha' : a ∈ fp (f j) := by
          rw [ej] at ha
          cases s' with
          | un => cases ha
          | st _ _ _ _ => exact ha
          | lk _ _ _ => exact ha
        exact q.own (f j) (List.getElem?_eq_some_iff.mp e).1 a ha'
  · cases ej : env'[j]? with
    | none => rw [ej] at ha; cases ha
    | some s' =>
      cases el : env'[l]? with
      | none => rw [el] at hb; cases hb
      | some s'' =>
        rcases hf j s' ej with rfl | ⟨e, eo, u⟩
        · rw [ej] at ha; cases ha
        · rcases hf l s'' el with rfl | ⟨e2, eo2, u2⟩
          · rw [el] at hb; cases hb
          · have ha' : a ∈ fp (f j) := by
              rw [ej] at ha
              cases s' with
              | un => cases ha
              | st _ _ _ _ => exact ha
              | lk _ _ _ => exact ha
            have hb' : a ∈ fp (f l) := by
              rw [el] at hb
              cases s'' with
              | un => cases hb
              | st _ _ _ _ => exact hb
              | lk _ _ _ => exact hb
            have hne : s'' ≠ .un := by
              rintro rfl
              rw [el] at hb; cases hb
            exact (u l s'' el hne (q.sep _ _ (List.getElem?_eq_some_iff.mp e2).1 (List.getElem?_eq_some_iff.mp e).1 a hb' ha')).symm
  · show (match env'[j]? with | some .un => [] | some _ => fp (f j) | none => []).Nodup
    cases ej : env'[j]? with
    | none => exact List.nodup_nil
    | some s' =>
      rcases hf j s' ej with rfl | ⟨e, eo, _⟩
      · exact List.nodup_nil
      · have := q.nd (f j) (List.getElem?_eq_some_iff.mp e).1
        cases s' with
        | un => exact List.nodup_nil
        | st _ _ _ _ => exact this
        | lk _ _ _ => exact this
end
end Z

set_option Elab.async false
set_option linter.all false
set_option maxRecDepth 100000
namespace Z
open PySem PySem.Spec PyProof.Rows L2

section
variable {C : Ck} {F F' H H' : Hp} {σ σs σ' : List (Option V)} {env es env' : Env} {o : Option V} {s : Slot} {τ : Type} {S : Stor τ} {E : Enc τ} {x : τ} {v : V} {w : Option V} {i : Nat} {p : Addr} {u : HO}
theorem at_app {α : Type _} {as bs : List α} {i : Nat} (n : Nat) (h : as.length = n) : (as ++ bs)[n + i]? = bs[i]? := by
  subst h; rw [List.getElem?_append_right (Nat.le_add_right _ _), Nat.add_sub_cancel_left]
theorem ER.lookF (h : ER C F H (σs ++ σ) (es ++ env)) (hl : σs.length = es.length) (e : env[i]? = some (.st w τ S x)) : ∃ v fp, σ[i]? = some (some v) ∧ S.rel C.K F H fp v x := by
  obtain ⟨v, fp, a, b⟩ := h.look (i := es.length + i) (by rw [at_app _ rfl]; exact e)
  exact ⟨v, fp, by rw [at_app _ hl] at a; exact a, b⟩
theorem ER.lookKF (h : ER C F H (σs ++ σ) (es ++ env)) (hl : σs.length = es.length) (e : env[i]? = some (.lk τ S x)) : ∃ v fp, σ[i]? = some (some v) ∧ S.rel C.K F H fp v x := by
  obtain ⟨v, fp, a, b⟩ := h.lookK (i := es.length + i) (by rw [at_app _ rfl]; exact e)
  exact ⟨v, fp, by rw [at_app _ hl] at a; exact a, b⟩
theorem ER.repF (h : ER C F H (σs ++ σ) (es ++ env)) (hl : σs.length = es.length) (e : env[i]? = some (.st w τ (it E) x)) : ∃ v, σ[i]? = some (some v) ∧ Rep C.K F v (E.enc x) := by
  obtain ⟨v, fp, a, b⟩ := h.lookF hl e
  exact ⟨v, a, b.2⟩
theorem ER.lenF (h : ER C F H (σs ++ σ) (es ++ env)) (hl : σs.length = es.length) : σ.length = env.length := by
  have := h.len; simp [hl] at this; exact this
/-- the top of the stack goes to slot i -/
theorem ER.asg (h : ER C F H (o :: (σs ++ σ)) (s :: (es ++ env))) (hl : σs.length = es.length) (hi : i < env.length) : ER C F H (σs ++ σ.set i o) (es ++ env.set i s) := by
  have hls : σ.length = env.length := h.pop.lenF hl
  refine h.perm (by simp [hl, hls]) (fun j => if j = es.length + i then 0 else j + 1) fun j s' ej => .inr ?_
  by_cases z : j = es.length + i
  · subst z
    rw [at_app _ rfl, List.getElem?_set_self hi] at ej
    cases ej
    refine ⟨by simp, ?_, fun l s'' _ _ q => ?_⟩
    · simp only [if_pos]
      rw [at_app _ hl, List.getElem?_set_self (by omega)]
      rfl
    · by_cases y : l = es.length + i
      · exact y
      · simp only [if_neg y, if_pos] at q; omega
  · refine ⟨?_, ?_, fun l s'' _ _ q => ?_⟩
    · simp only [if_neg z, List.getElem?_cons_succ]
      by_cases a : j < es.length
      · rw [List.getElem?_append_left a] at ej ⊢; exact ej
      · obtain ⟨m, rfl⟩ : ∃ m, j = es.length + m := ⟨j - es.length, by omega⟩
        rw [at_app _ rfl, List.getElem?_set_ne (by omega)] at ej
        rw [at_app _ rfl]; exact ej
    · simp only [if_neg z, List.getElem?_cons_succ]
      by_cases a : j < es.length
      · rw [List.getElem?_append_left (by omega), List.getElem?_append_left (by omega)]
      · obtain ⟨m, rfl⟩ : ∃ m, j = es.length + m := ⟨j - es.length, by omega⟩
        rw [at_app _ hl, at_app _ hl, List.getElem?_set_ne (by omega)]
    · simp only [if_neg z] at q
      by_cases y : l = es.length + i
      · simp only [if_pos y] at q; omega
      · simp only [if_neg y] at q; omega
/-- weaker slots -/
inductive Sub : Env → Env → Prop
  | nil : Sub [] []
  | keep {s : Slot} {a b : Env} : Sub a b → Sub (s :: a) (s :: b)
  | drop {s : Slot} {a b : Env} : Sub a b → Sub (s :: a) (.un :: b)
theorem Sub.get : ∀ {a b : Env}, Sub a b → ∀ (j : Nat) (s' : Slot), b[j]? = some s' → s' = Slot.un ∨ a[j]? = some s'
  | _, _, .nil, j, s', e => by simp at e
  | _, _, .keep r, 0, s', e => .inr e
  | _, _, .keep r, j + 1, s', e => by simpa using r.get j s' (by simpa using e)
  | _, _, .drop r, 0, s', e => .inl (by simp at e; exact e.symm)
  | _, _, .drop r, j + 1, s', e => by simpa using r.get j s' (by simpa using e)
theorem Sub.len : ∀ {a b : Env}, Sub a b → a.length = b.length
  | _, _, .nil => rfl
  | _, _, .keep r => congrArg (· + 1) r.len
  | _, _, .drop r => congrArg (· + 1) r.len
theorem Sub.refl : ∀ (a : Env), Sub a a
  | [] => .nil
  | _ :: a => .keep (Sub.refl a)
theorem Sub.pre : ∀ (es : Env) {a b : Env}, Sub a b → Sub (es ++ a) (es ++ b)
  | [], _, _, r => r
  | _ :: es, _, _, r => .keep (Sub.pre es r)
theorem ER.sub (h : ER C F H σ env) (q : Sub env env') : ER C F H σ env' :=
  h.perm (by rw [h.len, q.len]) id fun j s' e => (q.get j s' e).imp id fun y => ⟨y, rfl, fun l _ _ _ z => z⟩
theorem ER.subF (h : ER C F H (σs ++ σ) (es ++ env)) (q : Sub env env') : ER C F H (σs ++ σ) (es ++ env') := h.sub (q.pre es)
theorem rot_key {α : Type _} (a : α) (at_ as : List α) {n : Nat} (hlen : at_.length = n) (j : Nat) : (a :: (at_ ++ as))[j]? = (at_ ++ a :: as)[if j = 0 then n else if j ≤ n then j - 1 else j]? := by
  by_cases z : j = 0
  · subst z
    simp only [if_pos, List.getElem?_cons_zero]
    rw [List.getElem?_append_right (by omega), hlen, Nat.sub_self]; rfl
  · obtain ⟨m, rfl⟩ : ∃ m, j = m + 1 := ⟨j - 1, by omega⟩
    simp only [if_neg z, List.getElem?_cons_succ]
    by_cases y : m + 1 ≤ n
    · rw [if_pos y, Nat.add_sub_cancel, List.getElem?_append_left (by omega), List.getElem?_append_left (by omega)]
    · rw [if_neg y, List.getElem?_append_right (by omega), List.getElem?_append_right (by omega)]
      obtain ⟨q, hq⟩ : ∃ q, m = n + q := ⟨m - n, by omega⟩
      subst hq
      rw [hlen, show n + q + 1 - n = q + 1 by omega, List.getElem?_cons_succ, show n + q - n = q by omega]
/-- a pushed value stands under others: it comes to the top -/
theorem ER.rot {σt : List (Option V)} {et : Env} (h : ER C F H (σt ++ o :: σ) (et ++ s :: env)) (hl : σt.length = et.length) : ER C F H (o :: (σt ++ σ)) (s :: (et ++ env)) := by
  have hls : σ.length = env.length := by have := h.len; simp [hl] at this; omega
  refine h.perm (by simp [hl, hls]) (fun j => if j = 0 then et.length else if j ≤ et.length then j - 1 else j) fun j s' ej => .inr ?_
  refine ⟨?_, ?_, fun l s'' _ _ q => ?_⟩
  · rw [← rot_key s et env rfl]; exact ej
  · rw [rot_key o σt σ hl]
  · by_cases z : j = 0
    · subst z
      by_cases y : l = 0
      · exact y
      · simp only [if_neg y, if_pos] at q
        by_cases a : l ≤ et.length
        · rw [if_pos a] at q; omega
        · rw [if_neg a] at q; omega
    · by_cases y : l = 0
      · subst y
        simp only [if_neg z, if_pos] at q
        by_cases a : j ≤ et.length
        · rw [if_pos a] at q; omega
        · rw [if_neg a] at q; omega
      · simp only [if_neg z, if_neg y] at q
        by_cases a : j ≤ et.length
        · rw [if_pos a] at q
          by_cases b : l ≤ et.length
          · rw [if_pos b] at q; omega
          · rw [if_neg b] at q; omega
        · rw [if_neg a] at q
          by_cases b : l ≤ et.length
          · rw [if_pos b] at q; omega
          · rw [if_neg b] at q; omega
theorem unrot_key {α : Type _} (a : α) (at_ as : List α) {n : Nat} (hlen : at_.length = n) (j : Nat) : (at_ ++ a :: as)[j]? = (a :: (at_ ++ as))[if j < n then j + 1 else if j = n then 0 else j]? := by
  by_cases z : j < n
  · rw [if_pos z, List.getElem?_cons_succ, List.getElem?_append_left (by omega), List.getElem?_append_left (by omega)]
  · rw [if_neg z]
    by_cases y : j = n
    · rw [if_pos y, List.getElem?_append_right (by omega), hlen, y, Nat.sub_self]; rfl
    · rw [if_neg y, List.getElem?_append_right (by omega)]
      obtain ⟨q, rfl⟩ : ∃ q, j = n + 1 + q := ⟨j - n - 1, by omega⟩
      rw [hlen, show n + 1 + q - n = q + 1 by omega, List.getElem?_cons_succ, show n + 1 + q = (n + q) + 1 by omega, List.getElem?_cons_succ, List.getElem?_append_right (by omega), hlen, Nat.add_sub_cancel_left]
/-- the top goes below others -/
theorem ER.unrot {σt : List (Option V)} {et : Env} (h : ER C F H (o :: (σt ++ σ)) (s :: (et ++ env))) (hl : σt.length = et.length) : ER C F H (σt ++ o :: σ) (et ++ s :: env) := by
  have hls : σ.length = env.length := by have := h.len; simp [hl] at this; omega
  refine h.perm (by simp [hl, hls]) (fun j => if j < et.length then j + 1 else if j = et.length then 0 else j) fun j s' ej => .inr ?_
  refine ⟨?_, ?_, fun l s'' _ _ q => ?_⟩
  · rw [← unrot_key s et env rfl]; exact ej
  · rw [unrot_key o σt σ hl]
  · by_cases z : j < et.length
    · simp only [if_pos z] at q
      by_cases y : l < et.length
      · simp only [if_pos y] at q; omega
      · simp only [if_neg y] at q
        by_cases x : l = et.length
        · simp only [if_pos x] at q; omega
        · simp only [if_neg x] at q; omega
    · simp only [if_neg z] at q
      by_cases y : l < et.length
      · simp only [if_pos y] at q
        by_cases x : j = et.length
        · simp only [if_pos x] at q; omega
        · simp only [if_neg x] at q; omega
      · simp only [if_neg y] at q
        by_cases x : j = et.length
        · simp only [if_pos x] at q
          by_cases w : l = et.length
          · omega
          · simp only [if_neg w] at q; omega
        · simp only [if_neg x] at q
          by_cases w : l = et.length
          · simp only [if_pos w] at q; omega
          · simp only [if_neg w] at q; omega
end

/-! ### the judgements -/
section
variable (X : Cx) {Ω : Type}
/-- the weakest readings -/
def tE (e : Expr) : TE := fun σ H Q => ∀ pins s, Inv X pins σ H s → wpAny (model X.prog X.w) X.A (eval e X.env) (EP X pins σ Q) X.xe s
def tT (e : Expr) : TT := fun σ H Q => ∀ pins s, Inv X pins σ H s → wpAny (model X.prog X.w) X.A (isTrue e X.env (eval e X.env)) (TP X pins σ Q) X.xe s
def tAs (es : List Expr) : TA := fun σ H Q => ∀ pos pins s, Inv X pins σ H s → wpAny (model X.prog X.w) X.A (spliced (backTo pos (starEach es X.env))) (AP X pins σ Q) X.xe s
def tSs (st : List Stmt) : TS := fun D σ H => ∀ pins s, Inv X pins σ H s → wpAny (model X.prog X.w) X.A (execs st X.env) (SP X pins D) X.xe s
def tS1 (st : Stmt) : TS := fun D σ H => ∀ pins s, Inv X pins σ H s → wpAny (model X.prog X.w) X.A (exec st X.env) (SP X pins D) X.xe s
theorem peC {e : Expr} : PE X e (tE X e) := ⟨fun pins s σ H Q I h => h pins s I⟩
theorem ptC {e : Expr} : PT X e (tT X e) := ⟨fun pins s σ H Q I h => h pins s I⟩
theorem paC {es : List Expr} : PA X es (tAs X es) := ⟨fun pos pins s σ H Q I h => h pos pins s I⟩
theorem pssC {st : List Stmt} : PSs X st (tSs X st) := ⟨fun pins s σ H D I h => h pins s I⟩
theorem psC {st : Stmt} : PS X st (tS1 X st) := ⟨fun pins s σ H D I h => h pins s I⟩
theorem tE.of {e : Expr} {t : TE} {σ : L2.St} {H : Hp} {Q : VK} (h : PE X e t) (q : t σ H Q) : tE X e σ H Q := fun pins s I => h.run pins s σ H Q I q
theorem tT.of {e : Expr} {t : TT} {σ : L2.St} {H : Hp} {Q : Bool → Hp → Prop} (h : PT X e t) (q : t σ H Q) : tT X e σ H Q := fun pins s I => h.run pins s σ H Q I q
theorem tAs.of {es : List Expr} {t : TA} {σ : L2.St} {H : Hp} {Q : List V → Hp → Prop} (h : PA X es t) (q : t σ H Q) : tAs X es σ H Q := fun pos pins s I => h.run pos pins s σ H Q I q
theorem tSs.of {st : List Stmt} {t : TS} {σ : L2.St} {H : Hp} {D : Ends} (h : PSs X st t) (q : t D σ H) : tSs X st D σ H := fun pins s I => h.run pins s σ H D I q
theorem tS1.of {st : Stmt} {t : TS} {σ : L2.St} {H : Hp} {D : Ends} (h : PS X st t) (q : t D σ H) : tS1 X st D σ H := fun pins s I => h.run pins s σ H D I q

def LX (env : Env) (e : Expr) {τ : Type} (S : Stor τ) {P : Type} (env' : P → Env) (f : (τ → P → Option Ω) → Option Ω) : Prop :=
  ∀ (C : Ck) (F H : Hp) (σs : List (Option V)) (es : Env) (σ : List (Option V)) (k : τ → P → Option Ω) (ω : Ω) (Q : VK), C.K = X.K → σs.length = es.length → ER C F H (σs ++ σ) (es ++ env) → f k = some ω →
    (∀ a p v F' H', k a p = some ω → ER C F' H' (some v :: (σs ++ σ)) (.st none τ S a :: (es ++ env' p)) → Q v H') → tE X e σ H Q
def LT (env : Env) (e : Expr) {P : Type} (env' : P → Env) (f : (Bool → P → Option Ω) → Option Ω) : Prop :=
  ∀ (C : Ck) (F H : Hp) (σs : List (Option V)) (es : Env) (σ : List (Option V)) (k : Bool → P → Option Ω) (ω : Ω) (Q : Bool → Hp → Prop), C.K = X.K → σs.length = es.length → ER C F H (σs ++ σ) (es ++ env) → f k = some ω →
    (∀ a p F' H', k a p = some ω → ER C F' H' (σs ++ σ) (es ++ env' p) → Q a H') → tT X e σ H Q
/-- an operand: what it tells may be read as long as the slots stand -/
def LO (G : Env → Prop) (env : Env) (e : Expr) {τ : Type} (S : Stor τ) {P : Type} (env' : P → Env) (f : (τ → P → Option Ω) → Option Ω) : Prop :=
  ∀ (C : Ck) (F H : Hp) (σs : List (Option V)) (es : Env) (σ : List (Option V)) (k : τ → P → Option Ω) (ω : Ω) (Q : VK), C.K = X.K → σs.length = es.length → ER C F H (σs ++ σ) (es ++ env) → f k = some ω →
    (∀ a p v F' H' (σx : List (Option V)) (ex : Env), σx.length = ex.length → k a p = some ω → ER C F' H' (σx ++ (σs ++ σ)) (ex ++ (es ++ env' p)) →
      (∀ (F'' H'' : Hp) (σ2 : List (Option V)) (e2 env2 : Env), G env2 → σ2.length = e2.length → ER C F'' H'' (σ2 ++ (σx ++ (σs ++ σ))) (e2 ++ (ex ++ (es ++ env2))) → ∃ fp, S.rel C.K F'' H'' fp v a) → Q v H') → tE X e σ H Q
/-- arguments, from the left -/
def LA (env : Env) (xs : List Expr) {A : Type} (sl : A → Env) {P : Type} (env' : P → Env) (f : (A → P → Option Ω) → Option Ω) : Prop :=
  ∀ (C : Ck) (F H : Hp) (σs : List (Option V)) (es : Env) (σ : List (Option V)) (k : A → P → Option Ω) (ω : Ω) (Q : List V → Hp → Prop), C.K = X.K → σs.length = es.length → ER C F H (σs ++ σ) (es ++ env) → f k = some ω →
    (∀ a p (vs : List V) F' H', k a p = some ω → (vs.map some).length = (sl a).length → ER C F' H' (vs.map some ++ (σs ++ σ)) (sl a ++ (es ++ env' p)) → Q vs H') → tAs X xs σ H Q
/-- a comparison: value and test -/
def LC (env : Env) (op : CmpOp) (a b : Expr) {P : Type} (env' : P → Env) (f : (Bool → P → Option Ω) → Option Ω) : Prop :=
  ∃ r : R2, OpR X (compareOp op) r ∧ ∀ (C : Ck) (F H : Hp) (σs : List (Option V)) (es : Env) (σ : List (Option V)) (k : Bool → P → Option Ω) (ω : Ω) (Q : VK), C.K = X.K → σs.length = es.length → ER C F H (σs ++ σ) (es ++ env) → f k = some ω →
    (∀ c p F' H', k c p = some ω → ER C F' H' (σs ++ σ) (es ++ env' p) → Q (.bl c) H') → tOp r (tE X a) (tE X b) σ H Q
end

/-- a label: where a break or a continue goes -/
structure Lp (Ω : Type) where
  J : Type
  env : J → Env
  k : J → Option Ω
def noLp (Ω : Type) : Lp Ω := ⟨Empty, fun e => e.elim, fun e => e.elim⟩
section
variable (X : Cx)
def LB {R I Ω : Type} (S : Stor R) (envR : I → Env) (kr : R → I → Option Ω) (bk ct : Lp Ω) (env : Env) (sts : List Stmt) {J : Type} (envJ : J → Env) (f : (J → Option Ω) → Option Ω) : Prop :=
  ∀ (C : Ck) (F H : Hp) (σs : List (Option V)) (es : Env) (σ : List (Option V)) (kn : J → Option Ω) (ω : Ω) (D : Ends), C.K = X.K → σs.length = es.length → ER C F H (σs ++ σ) (es ++ env) → f kn = some ω →
    (∀ j F' H' σ', kn j = some ω → ER C F' H' (σs ++ σ') (es ++ envJ j) → D.nx σ' H') →
    (∀ j F' H' σ', bk.k j = some ω → ER C F' H' (σs ++ σ') (es ++ bk.env j) → D.bk σ' H') →
    (∀ j F' H' σ', ct.k j = some ω → ER C F' H' (σs ++ σ') (es ++ ct.env j) → D.ct σ' H') →
    (∀ a i v F' H' σ', kr a i = some ω → ER C F' H' (some v :: (σs ++ σ')) (.st none R S a :: (es ++ envR i)) → D.rt v H') → tSs X sts D σ H
end

/-! ### names, constants -/
section
variable {X : Cx} {Ω : Type} {env env1 : Env} {τ : Type} {S : Stor τ} {E : Enc τ} {x : τ} {w : Option V} {i : Nat} {nm : Str} {pos : Pos} {e a b : Expr} {P P1 P2 : Type} {f : (τ → P → Option Ω) → Option Ω} {env' : P → Env}
theorem lx_var (i : Nat) (cp : Cp S) (e : env[i]? = some (.st w τ S x)) (hN : X.N[i]? = some nm := by rfl) (hv : Vis X.env.scope nm := by first | exact Or.inl rfl | exact Or.inr (Or.inl rfl) | exact Or.inr (Or.inr rfl)) (hd : (nm == ("__debug__" : Str)) = false := by decide) (hcd : (nm == ("__classdict__" : Str)) = false := by decide) :
    LX X env (.Name nm pos) S (fun _ : Unit => env) (fun (k : τ → Unit → Option Ω) => k x ()) := by
  refine fun C F H σs es σ k ω Q hK hl h hk q => tE.of X (pe_var hN hv hd hcd) ?_
  obtain ⟨v, fp, e1, r⟩ := h.lookF hl e
  have z := cp.nil r
  subst z
  exact ⟨v, e1, q x () v F H hk (h.push0 ⟨v, rfl, r, fun _ m => nomatch m⟩)⟩
/-- an own object is read and shared from here on -/
theorem lx_frz (i : Nat) (fz : Frz S E) (e : env[i]? = some (.st none τ S x)) (hN : X.N[i]? = some nm := by rfl) (hv : Vis X.env.scope nm := by first | exact Or.inl rfl | exact Or.inr (Or.inl rfl) | exact Or.inr (Or.inr rfl)) (hd : (nm == ("__debug__" : Str)) = false := by decide) (hcd : (nm == ("__classdict__" : Str)) = false := by decide) :
    LX X env (.Name nm pos) (it E) (fun _ : Unit => env.set i (.st none τ (it E) x)) (fun (k : τ → Unit → Option Ω) => k x ()) := by
  refine fun C F H σs es σ k ω Q hK hl h hk q => tE.of X (pe_var hN hv hd hcd) ?_
  obtain ⟨F', sF, h'⟩ := h.freeze (i := es.length + i) fz (by rw [at_app _ rfl]; exact e)
  have h2 : ER C F' H (σs ++ σ) (es ++ env.set i (.st none τ (it E) x)) := by
    rw [List.set_append_right _ _ (Nat.le_add_right _ _), Nat.add_sub_cancel_left] at h'
    exact h'
  obtain ⟨v, e1, r⟩ := h2.repF (i := i) (E := E) (x := x) (w := none) hl (by rw [List.getElem?_set_self (List.getElem?_eq_some_iff.mp e).1])
  exact ⟨v, e1, q x () v F' H hk (h2.pushSh r)⟩
/-- an own object is handed on -/
theorem lx_move (i : Nat) (e : env[i]? = some (.st none τ S x)) (hN : X.N[i]? = some nm := by rfl) (hv : Vis X.env.scope nm := by first | exact Or.inl rfl | exact Or.inr (Or.inl rfl) | exact Or.inr (Or.inr rfl)) (hd : (nm == ("__debug__" : Str)) = false := by decide) (hcd : (nm == ("__classdict__" : Str)) = false := by decide) :
    LX X env (.Name nm pos) S (fun _ : Unit => env.set i .un) (fun (k : τ → Unit → Option Ω) => k x ()) := by
  refine fun C F H σs es σ k ω Q hK hl h hk q => tE.of X (pe_var hN hv hd hcd) ?_
  obtain ⟨v, fp, e1, r⟩ := h.lookF hl e
  refine ⟨v, e1, q x () v F H hk ?_⟩
  have hi := (List.getElem?_eq_some_iff.mp e).1
  refine h.perm (by have := h.len; simp at this ⊢; omega) (fun j => if j = 0 then es.length + i else j - 1) fun j s' ej => ?_
  cases j with
  | zero =>
    simp at ej; subst ej
    refine .inr ⟨?_, ?_, fun l s'' el hne hq => ?_⟩
    · simp only [if_pos]; rw [at_app _ rfl]; exact e
    · simp only [if_pos]; rw [at_app _ hl, e1]; rfl
    · by_cases z : l = 0
      · exact z
      · exfalso
        simp only [if_neg z, if_pos] at hq
        obtain ⟨m, rfl⟩ : ∃ m, l = m + 1 := ⟨l - 1, by omega⟩
        have hm : m = es.length + i := by omega
        subst hm
        rw [List.getElem?_cons_succ, at_app _ rfl, List.getElem?_set_self hi] at el
        exact hne (Option.some.inj el).symm
  | succ j =>
    rw [List.getElem?_cons_succ] at ej
    by_cases z : j = es.length + i
    · subst z
      rw [at_app _ rfl, List.getElem?_set_self hi] at ej
      exact .inl (Option.some.inj ej).symm
    · refine .inr ⟨?_, by simp, fun l s'' el hne hq => ?_⟩
      · simp only [Nat.add_one_sub_one, if_neg (Nat.succ_ne_zero j)]
        by_cases y : j < es.length
        · rw [List.getElem?_append_left y] at ej ⊢; exact ej
        · obtain ⟨m, rfl⟩ : ∃ m, j = es.length + m := ⟨j - es.length, by omega⟩
          rw [at_app _ rfl, List.getElem?_set_ne (by omega)] at ej
          rw [at_app _ rfl]; exact ej
      · by_cases y : l = 0
        · subst y; simp only [if_pos, if_neg (Nat.succ_ne_zero j)] at hq; omega
        · simp only [if_neg y, if_neg (Nat.succ_ne_zero j)] at hq; omega
theorem lx_c {v : V} (hp : PE X e (tC v)) (r : ∀ F, Rep X.K F v (E.enc x)) : LX X env e (it E) (fun _ : Unit => env) (fun (k : τ → Unit → Option Ω) => k x ()) :=
  fun C F H σs es σ k ω Q hK hl h hk q => tE.of X hp (q x () v F H hk (h.pushSh (by rw [hK]; exact r F)))
theorem lx_int {n : Int} {j : Nat} : LX X env (.Constant (.int n) j pos) (it eI) (fun _ : Unit => env) (fun (k : Int → Unit → Option Ω) => k n ()) := lx_c pe_int fun _ => .int n
theorem lx_bl {c : Bool} {j : Nat} : LX X env (.Constant (.bool c) j pos) (it eB) (fun _ : Unit => env) (fun (k : Bool → Unit → Option Ω) => k c ()) := lx_c pe_bl fun _ => .bl c
theorem lx_str {c : Str} {j : Nat} : LX X env (.Constant (.str c) j pos) (it eS) (fun _ : Unit => env) (fun (k : Str → Unit → Option Ω) => k c ()) := lx_c pe_str fun _ => .str c
theorem lx_non {j : Nat} : LX X env (.Constant .none j pos) (it eN) (fun _ : Unit => env) (fun (k : Unit → Unit → Option Ω) => k () ()) := lx_c pe_non fun _ => .non
/-- what is told may be taken for another kind of the same data -/
theorem lx_as {τ' : Type} {E' : Enc τ'} (h : LX X env e (it E) env' f) (g : τ → τ') (hg : ∀ a, E'.enc (g a) = E.enc a) : LX X env e (it E') env' (fun (k : τ' → P → Option Ω) => f fun a p => k (g a) p) := by
  refine fun C F H σs es σ k ω Q hK hl hr hk q => h C F H σs es σ _ ω Q hK hl hr hk fun a p v F' H' hka h' => q (g a) p v F' H' hka ?_
  obtain ⟨v', fp, e1, r⟩ := h'.look (i := 0) rfl
  simp at e1; subst e1
  exact h'.pop.pushSh (by rw [hg]; exact r.2)
/-- .. a cast: where the data are of another kind the walk is not followed -/
theorem lx_cast {τ' : Type} {E' : Enc τ'} (h : LX X env e (it E) env' f) (g : τ → Option τ') (hg : ∀ a b, g a = some b → E'.enc b = E.enc a) : LX X env e (it E') env' (fun (k : τ' → P → Option Ω) => f fun a p => (g a).bind fun b => k b p) := by
  refine fun C F H σs es σ k ω Q hK hl hr hk q => h C F H σs es σ _ ω Q hK hl hr hk fun a p v F' H' hka h' => ?_
  cases z : g a with
  | none => rw [z] at hka; cases hka
  | some b =>
    rw [z] at hka
    obtain ⟨v', fp, e1, r⟩ := h'.look (i := 0) rfl
    simp at e1; subst e1
    exact q b p v F' H' hka (h'.pop.pushSh (by rw [hg a b z]; exact r.2))
/-- own objects that were made are shared -/
theorem lx_sh (fz : Frz S E) (h : LX X env e S env' f) : LX X env e (it E) env' f := by
  refine fun C F H σs es σ k ω Q hK hl hr hk q => h C F H σs es σ k ω Q hK hl hr hk fun a p v F' H' hka h' => ?_
  obtain ⟨F2, sF, h2⟩ := h'.freeze (i := 0) fz rfl
  exact q a p v F2 H' hka h2
/-- the operands -/
theorem lo_of (h : LX X env e S env' f) : LO X (fun _ => True) env e S env' f := by
  refine fun C F H σs es σ k ω Q hK hl hr hk q => h C F H σs es σ k ω Q hK hl hr hk fun a p v F' H' hka h' => ?_
  refine q a p v F' H' [some v] [.st none τ S a] rfl hka h' fun F'' H'' σ2 e2 env2 _ hl2 h2 => ?_
  obtain ⟨v', fp, e1, r⟩ := h2.look (i := e2.length + 0) (by rw [at_app _ rfl]; rfl)
  rw [at_app _ hl2] at e1
  simp at e1; subst e1
  exact ⟨fp, r⟩
theorem lo_var (i : Nat) (e : env[i]? = some (.st w τ S x)) (hN : X.N[i]? = some nm := by rfl) (hv : Vis X.env.scope nm := by first | exact Or.inl rfl | exact Or.inr (Or.inl rfl) | exact Or.inr (Or.inr rfl)) (hd : (nm == ("__debug__" : Str)) = false := by decide) (hcd : (nm == ("__classdict__" : Str)) = false := by decide) :
    LO X (fun en => en[i]? = some (.st w τ S x)) env (.Name nm pos) S (fun _ : Unit => env) (fun (k : τ → Unit → Option Ω) => k x ()) := by
  refine fun C F H σs es σ k ω Q hK hl h hk q => tE.of X (pe_var hN hv hd hcd) ?_
  obtain ⟨v, fp, e1, r⟩ := h.lookF hl e
  refine ⟨v, e1, q x () v F H [] [] rfl hk h fun F'' H'' σ2 e2 env2 hg hl2 h2 => ?_⟩
  have h3 : ER C F'' H'' ((σ2 ++ σs) ++ σ) ((e2 ++ es) ++ env2) := by simpa [List.append_assoc] using h2
  obtain ⟨v', fp', e1', r'⟩ := h3.lookF (i := i) (τ := τ) (S := S) (x := x) (w := w) (by simp [hl, hl2]) hg
  rw [e1] at e1'; cases e1'
  exact ⟨fp', r'⟩
theorem lo_lk (i : Nat) (e : env[i]? = some (.lk τ S x)) (hN : X.N[i]? = some nm := by rfl) (hv : Vis X.env.scope nm := by first | exact Or.inl rfl | exact Or.inr (Or.inl rfl) | exact Or.inr (Or.inr rfl)) (hd : (nm == ("__debug__" : Str)) = false := by decide) (hcd : (nm == ("__classdict__" : Str)) = false := by decide) :
    LO X (fun en => en[i]? = some (.lk τ S x)) env (.Name nm pos) S (fun _ : Unit => env) (fun (k : τ → Unit → Option Ω) => k x ()) := by
  refine fun C F H σs es σ k ω Q hK hl h hk q => tE.of X (pe_var hN hv hd hcd) ?_
  obtain ⟨v, fp, e1, r⟩ := h.lookKF hl e
  refine ⟨v, e1, q x () v F H [] [] rfl hk h fun F'' H'' σ2 e2 env2 hg hl2 h2 => ?_⟩
  have h3 : ER C F'' H'' ((σ2 ++ σs) ++ σ) ((e2 ++ es) ++ env2) := by simpa [List.append_assoc] using h2
  obtain ⟨v', fp', e1', r'⟩ := h3.lookKF (i := i) (τ := τ) (S := S) (x := x) (by simp [hl, hl2]) hg
  rw [e1] at e1'; cases e1'
  exact ⟨fp', r'⟩
end
end Z

set_option Elab.async false
set_option linter.all false
set_option maxRecDepth 100000
namespace Z
open PySem PySem.Spec PyProof.Rows L2

/-- a check on the way: where it fails the walk is not followed -/
def ck {Ω : Type} (b : Bool) (k : Option Ω) : Option Ω := if b then k else none
theorem ck_some {Ω : Type} {b : Bool} {k : Option Ω} {ω : Ω} (h : ck b k = some ω) : b = true ∧ k = some ω := by
  unfold ck at h
  cases b with
  | true => exact ⟨rfl, by simpa using h⟩
  | false => simp at h
@[simp] theorem ck_true {Ω : Type} (k : Option Ω) : ck true k = k := rfl
theorem bind_some {α Ω : Type} {o : Option α} {k : α → Option Ω} {ω : Ω} (h : o.bind k = some ω) : ∃ a, o = some a ∧ k a = some ω := by
  cases o with
  | none => cases h
  | some a => exact ⟨a, rfl, h⟩

section
variable {X : Cx} {Ω : Type} {env : Env} {nm : Str} {pos : Pos} {a b : Expr} {P P1 P2 : Type} {τ τ1 τ2 α β : Type} {S : Stor τ} {S1 : Stor τ1} {S2 : Stor τ2} {E : Enc τ} {E1 : Enc τ1} {E2 : Enc τ2}
  {G : Env → Prop} {G1 : Env → Prop} {G2 : P1 → Env → Prop} {e1 : P1 → Env} {e2 : P1 → P2 → Env} {fa : (τ1 → P1 → Option Ω) → Option Ω} {fb : P1 → (τ2 → P2 → Option Ω) → Option Ω}

theorem lo_run (ha : LO X G env a S1 e1 fa) (g1 : ∀ p1, G (e1 p1)) {C : Ck} {F H : Hp} {σs : List (Option V)} {es : Env} {σ : List (Option V)} {k : τ1 → P1 → Option Ω} {ω : Ω} {R : V → Hp → Prop} (hK : C.K = X.K) (hl : σs.length = es.length)
    (h : ER C F H (σs ++ σ) (es ++ env)) (hk : fa k = some ω)
    (q : ∀ x p1 v F' H' fp, k x p1 = some ω → ER C F' H' (σs ++ σ) (es ++ e1 p1) → S1.rel C.K F' H' fp v x → R v H') : tE X a σ H R :=
  ha C F H σs es σ k ω R hK hl h hk fun x p1 v F' H' σx ex hlx hk' h' r' => by
    obtain ⟨fp, rr⟩ := r' F' H' [] [] (e1 p1) (g1 p1) rfl h'
    exact q x p1 v F' H' fp hk' (h'.popN hlx) rr
/-- two operands in a row -/
theorem op2_run (ha : LO X G1 env a S1 e1 fa) (hb : ∀ p1, LO X (G2 p1) (e1 p1) b S2 (e2 p1) (fb p1)) (g1 : ∀ p1 p2, G1 (e2 p1 p2)) (g2 : ∀ p1 p2, G2 p1 (e2 p1 p2))
    {C : Ck} {F H : Hp} {σs : List (Option V)} {es : Env} {σ : List (Option V)} {k : τ1 → P1 → τ2 → P2 → Option Ω} {ω : Ω} {R : V → V → Hp → Prop} (hK : C.K = X.K) (hl : σs.length = es.length)
    (h : ER C F H (σs ++ σ) (es ++ env)) (hk : (fa fun x p1 => fb p1 fun y p2 => k x p1 y p2) = some ω)
    (q : ∀ x p1 y p2 v u F' H' fp fq, k x p1 y p2 = some ω → ER C F' H' (σs ++ σ) (es ++ e2 p1 p2) → S1.rel C.K F' H' fp v x → S2.rel C.K F' H' fq u y → R v u H') :
    tE X a σ H fun v H1 => tE X b σ H1 fun u H2 => R v u H2 :=
  ha C F H σs es σ _ ω _ hK hl h hk fun x p1 v F' H' σx ex hlx hk' h' r' =>
    hb p1 C F' H' (σx ++ σs) (ex ++ es) σ _ ω _ hK (by simp [hl, hlx]) (by simpa [List.append_assoc] using h') hk' fun y p2 u F2 H2 σy ey hly hk2 h2 r2 => by
      have h3 : ER C F2 H2 (σy ++ (σx ++ (σs ++ σ))) (ey ++ (ex ++ (es ++ e2 p1 p2))) := by simpa [List.append_assoc] using h2
      obtain ⟨fp, rr⟩ := r' F2 H2 σy ey (e2 p1 p2) (g1 p1 p2) hly h3
      obtain ⟨fq, rq⟩ := r2 F2 H2 [] [] (e2 p1 p2) (g2 p1 p2) rfl h2
      exact q x p1 y p2 v u F2 H2 fp fq hk2 ((h3.popN hly).popN hlx) rr rq

/-! ### numbers -/
/-- an operator of two ints, by its check and its value -/
theorem lx_opI {op : Operator} {r : R2} {c : Int → Int → Bool} {g : Int → Int → Int} (ho : OpR X (binaryOp op) r) (hr : ∀ i j H (Q : VK), c i j = true → Q (.int (g i j)) H → r (.int i) (.int j) H Q)
    {fa : (Int → P1 → Option Ω) → Option Ω} {fb : P1 → (Int → P2 → Option Ω) → Option Ω} (ha : LX X env a (it eI) e1 fa) (hb : ∀ p1, LX X (e1 p1) b (it eI) (e2 p1) (fb p1)) :
    LX X env (.BinOp a op b pos) (it eI) (fun p : P1 × P2 => e2 p.1 p.2) (fun k => fa fun x p1 => fb p1 fun y p2 => ck (c x y) (k (g x y) (p1, p2))) :=
  fun C F H σs es σ k ω Q hK hl h hk q => tE.of X (pe_op ho (peC X) (peC X)) (op2_run (lo_of ha) (fun p1 => lo_of (hb p1)) (fun _ _ => trivial) (fun _ _ => trivial) hK hl h hk
    fun x p1 y p2 v u F' H' fp fq hk' h' r1 r2 => by
      obtain ⟨hc, hk'⟩ := ck_some hk'
      obtain ⟨_, r1⟩ := r1
      obtain ⟨_, r2⟩ := r2
      cases r1; cases r2
      exact hr x y H' Q hc (q _ (p1, p2) _ F' H' hk' (h'.pushSh (.int _))))
/-- .. that needs no check -/
theorem lx_opT {op : Operator} {r : R2} {g : Int → Int → Int} (ho : OpR X (binaryOp op) r) (hr : ∀ i j H (Q : VK), Q (.int (g i j)) H → r (.int i) (.int j) H Q)
    {fa : (Int → P1 → Option Ω) → Option Ω} {fb : P1 → (Int → P2 → Option Ω) → Option Ω} (ha : LX X env a (it eI) e1 fa) (hb : ∀ p1, LX X (e1 p1) b (it eI) (e2 p1) (fb p1)) :
    LX X env (.BinOp a op b pos) (it eI) (fun p : P1 × P2 => e2 p.1 p.2) (fun k => fa fun x p1 => fb p1 fun y p2 => k (g x y) (p1, p2)) :=
  fun C F H σs es σ k ω Q hK hl h hk q => tE.of X (pe_op ho (peC X) (peC X)) (op2_run (lo_of ha) (fun p1 => lo_of (hb p1)) (fun _ _ => trivial) (fun _ _ => trivial) hK hl h hk
    fun x p1 y p2 v u F' H' fp fq hk' h' r1 r2 => by
      obtain ⟨_, r1⟩ := r1
      obtain ⟨_, r2⟩ := r2
      cases r1; cases r2
      exact hr x y H' Q (q _ (p1, p2) _ F' H' hk' (h'.pushSh (.int _))))
section
variable {fa : (Int → P1 → Option Ω) → Option Ω} {fb : P1 → (Int → P2 → Option Ω) → Option Ω}
theorem lx_add (ha : LX X env a (it eI) e1 fa) (hb : ∀ p1, LX X (e1 p1) b (it eI) (e2 p1) (fb p1)) :
    LX X env (.BinOp a .Add b pos) (it eI) (fun p : P1 × P2 => e2 p.1 p.2) (fun k => fa fun x p1 => fb p1 fun y p2 => k (x + y) (p1, p2)) := lx_opT op_add (fun i j _ _ q => ⟨i, j, rfl, rfl, q⟩) ha hb
theorem lx_sub (ha : LX X env a (it eI) e1 fa) (hb : ∀ p1, LX X (e1 p1) b (it eI) (e2 p1) (fb p1)) :
    LX X env (.BinOp a .Sub b pos) (it eI) (fun p : P1 × P2 => e2 p.1 p.2) (fun k => fa fun x p1 => fb p1 fun y p2 => k (x - y) (p1, p2)) := lx_opT op_sub (fun i j _ _ q => ⟨i, j, rfl, rfl, q⟩) ha hb
/-- a product: one factor is below 2 ^ 64 -/
def mulOk (i j : Int) : Bool := decide ((-(2 ^ 64) < i ∧ i < 2 ^ 64) ∨ (-(2 ^ 64) < j ∧ j < 2 ^ 64))
def divOk (j : Int) : Bool := decide (j ≠ 0 ∧ j.natAbs < 1073741824)
def modOk (j : Int) : Bool := decide (j ≠ 0)
def powOk (i j : Int) : Bool := decide (0 ≤ j ∧ j ≤ 1000000 ∧ i.natAbs < 2 ^ 64)
theorem lx_mul (ha : LX X env a (it eI) e1 fa) (hb : ∀ p1, LX X (e1 p1) b (it eI) (e2 p1) (fb p1)) :
    LX X env (.BinOp a .Mult b pos) (it eI) (fun p : P1 × P2 => e2 p.1 p.2) (fun k => fa fun x p1 => fb p1 fun y p2 => ck (mulOk x y) (k (x * y) (p1, p2))) := lx_opI (c := mulOk) op_mul (fun i j _ _ c q => ⟨i, j, rfl, rfl, of_decide_eq_true (p := (-(2 ^ 64) < i ∧ i < 2 ^ 64) ∨ (-(2 ^ 64) < j ∧ j < 2 ^ 64)) c, q⟩) ha hb
theorem lx_fdiv (ha : LX X env a (it eI) e1 fa) (hb : ∀ p1, LX X (e1 p1) b (it eI) (e2 p1) (fb p1)) :
    LX X env (.BinOp a .FloorDiv b pos) (it eI) (fun p : P1 × P2 => e2 p.1 p.2) (fun k => fa fun x p1 => fb p1 fun y p2 => ck (divOk y) (k (x.fdiv y) (p1, p2))) := lx_opI (c := fun _ y => divOk y) op_fdivN (fun i j _ _ c q => ⟨i, j, rfl, rfl, of_decide_eq_true (p := j ≠ 0 ∧ j.natAbs < 1073741824) c, q⟩) ha hb
theorem lx_mod (ha : LX X env a (it eI) e1 fa) (hb : ∀ p1, LX X (e1 p1) b (it eI) (e2 p1) (fb p1)) :
    LX X env (.BinOp a .Mod b pos) (it eI) (fun p : P1 × P2 => e2 p.1 p.2) (fun k => fa fun x p1 => fb p1 fun y p2 => ck (modOk y) (k (x.fmod y) (p1, p2))) := lx_opI (c := fun _ y => modOk y) op_modN (fun i j _ _ c q => ⟨i, j, rfl, rfl, of_decide_eq_true c, q⟩) ha hb
theorem lx_pow (ha : LX X env a (it eI) e1 fa) (hb : ∀ p1, LX X (e1 p1) b (it eI) (e2 p1) (fb p1)) :
    LX X env (.BinOp a .Pow b pos) (it eI) (fun p : P1 × P2 => e2 p.1 p.2) (fun k => fa fun x p1 => fb p1 fun y p2 => ck (powOk x y) (k (x ^ y.toNat) (p1, p2))) := lx_opI (c := powOk) op_pow (fun i j _ _ c q => ⟨i, j, rfl, rfl, of_decide_eq_true (p := 0 ≤ j ∧ j ≤ 1000000 ∧ i.natAbs < 2 ^ 64) c, q⟩) ha hb
theorem lx_neg (ha : LX X env a (it eI) e1 fa) : LX X env (.UnaryOp .USub a pos) (it eI) e1 (fun k => fa fun x p1 => k (-x) p1) :=
  fun C F H σs es σ k ω Q hK hl h hk q => tE.of X (pe_un un_neg (peC X)) (lo_run (lo_of ha) (fun _ => trivial) hK hl h hk fun x p1 v F' H' fp hk' h' r => by
    obtain ⟨_, r⟩ := r
    cases r
    exact ⟨x, rfl, q _ p1 _ F' H' hk' (h'.pushSh (.int _))⟩)
end
/-! ### comparisons -/
theorem lc_cmp {op : CmpOp} {r : R2} {g : τ1 → τ2 → Bool} (ho : OpR X (compareOp op) r) (ha : LO X G1 env a S1 e1 fa) (hb : ∀ p1, LO X (G2 p1) (e1 p1) b S2 (e2 p1) (fb p1)) (g1 : ∀ p1 p2, G1 (e2 p1 p2)) (g2 : ∀ p1 p2, G2 p1 (e2 p1 p2))
    (hr : ∀ K F H fp fq v u x y (Q : VK), K = X.K → Same F H → S1.rel K F H fp v x → S2.rel K F H fq u y → Q (.bl (g x y)) H → r v u H Q) :
    LC X env op a b (fun p : P1 × P2 => e2 p.1 p.2) (fun k => fa fun x p1 => fb p1 fun y p2 => k (g x y) (p1, p2)) :=
  ⟨r, ho, fun C F H σs es σ k ω Q hK hl h hk q => op2_run ha hb g1 g2 hK hl h hk fun x p1 y p2 v u F' H' fp fq hk' h' r1 r2 =>
    hr C.K F' H' fp fq v u x y Q hK h'.sF r1 r2 (q _ (p1, p2) F' H' hk' h')⟩
/-- .. with a check -/
theorem lc_cmpC {op : CmpOp} {r : R2} {c g : τ1 → τ2 → Bool} (ho : OpR X (compareOp op) r) (ha : LO X G1 env a S1 e1 fa) (hb : ∀ p1, LO X (G2 p1) (e1 p1) b S2 (e2 p1) (fb p1)) (g1 : ∀ p1 p2, G1 (e2 p1 p2)) (g2 : ∀ p1 p2, G2 p1 (e2 p1 p2))
    (hr : ∀ K F H fp fq v u x y (Q : VK), K = X.K → Same F H → c x y = true → S1.rel K F H fp v x → S2.rel K F H fq u y → Q (.bl (g x y)) H → r v u H Q) :
    LC X env op a b (fun p : P1 × P2 => e2 p.1 p.2) (fun k => fa fun x p1 => fb p1 fun y p2 => ck (c x y) (k (g x y) (p1, p2))) :=
  ⟨r, ho, fun C F H σs es σ k ω Q hK hl h hk q => op2_run ha hb g1 g2 hK hl h hk fun x p1 y p2 v u F' H' fp fq hk' h' r1 r2 => by
    obtain ⟨hc, hk'⟩ := ck_some hk'
    exact hr C.K F' H' fp fq v u x y Q hK h'.sF hc r1 r2 (q _ (p1, p2) F' H' hk' h')⟩
theorem lx_cmp {op : CmpOp} {e' : P → Env} {f : (Bool → P → Option Ω) → Option Ω} (h : LC X env op a b e' f) (hm : behindInMarks op b = false) : LX X env (.Compare a [op] [b] pos) (it eB) e' f := by
  obtain ⟨r, ho, h⟩ := h
  exact fun C F H σs es σ k ω Q hK hl hr hk q => tE.of X (pe_cmpR ho (peC X) (peC X) hm) (h C F H σs es σ k ω Q hK hl hr hk fun c p F' H' hk' h' => q c p _ F' H' hk' (h'.pushSh (.bl _)))
theorem lt_cmp {op : CmpOp} {e' : P → Env} {f : (Bool → P → Option Ω) → Option Ω} (h : LC X env op a b e' f) (hm : behindInMarks op b = false) : LT X env (.Compare a [op] [b] pos) e' f := by
  obtain ⟨r, ho, h⟩ := h
  exact fun C F H σs es σ k ω Q hK hl hr hk q => tT.of X (pt_cmpR ho (peC X) (peC X) hm) (h C F H σs es σ k ω _ hK hl hr hk fun c p F' H' hk' h' => ⟨c, rfl, q c p F' H' hk' h'⟩)
section
variable {fa : (Int → P1 → Option Ω) → Option Ω} {fb : P1 → (Int → P2 → Option Ω) → Option Ω}
theorem lc_int {op : CmpOp} {r : R2} {g : Int → Int → Bool} (ho : OpR X (compareOp op) r) (hr : ∀ i j H (Q : VK), Q (.bl (g i j)) H → r (.int i) (.int j) H Q) (ha : LX X env a (it eI) e1 fa) (hb : ∀ p1, LX X (e1 p1) b (it eI) (e2 p1) (fb p1)) :
    LC X env op a b (fun p : P1 × P2 => e2 p.1 p.2) (fun k => fa fun x p1 => fb p1 fun y p2 => k (g x y) (p1, p2)) :=
  lc_cmp ho (lo_of ha) (fun p1 => lo_of (hb p1)) (fun _ _ => trivial) (fun _ _ => trivial) fun K F H fp fq v u x y Q _ _ r1 r2 q => by
    obtain ⟨_, r1⟩ := r1
    obtain ⟨_, r2⟩ := r2
    cases r1; cases r2
    exact hr x y H Q q
theorem lc_lt (ha : LX X env a (it eI) e1 fa) (hb : ∀ p1, LX X (e1 p1) b (it eI) (e2 p1) (fb p1)) : LC X env .Lt a b (fun p : P1 × P2 => e2 p.1 p.2) (fun k => fa fun x p1 => fb p1 fun y p2 => k (decide (x < y)) (p1, p2)) := lc_int op_lt (fun i j _ _ q => ⟨i, j, rfl, rfl, q⟩) ha hb
theorem lc_le (ha : LX X env a (it eI) e1 fa) (hb : ∀ p1, LX X (e1 p1) b (it eI) (e2 p1) (fb p1)) : LC X env .LtE a b (fun p : P1 × P2 => e2 p.1 p.2) (fun k => fa fun x p1 => fb p1 fun y p2 => k (decide (x ≤ y)) (p1, p2)) := lc_int op_le (fun i j _ _ q => ⟨i, j, rfl, rfl, q⟩) ha hb
theorem lc_gt (ha : LX X env a (it eI) e1 fa) (hb : ∀ p1, LX X (e1 p1) b (it eI) (e2 p1) (fb p1)) : LC X env .Gt a b (fun p : P1 × P2 => e2 p.1 p.2) (fun k => fa fun x p1 => fb p1 fun y p2 => k (decide (y < x)) (p1, p2)) := lc_int op_gt (fun i j _ _ q => ⟨i, j, rfl, rfl, q⟩) ha hb
theorem lc_ge (ha : LX X env a (it eI) e1 fa) (hb : ∀ p1, LX X (e1 p1) b (it eI) (e2 p1) (fb p1)) : LC X env .GtE a b (fun p : P1 × P2 => e2 p.1 p.2) (fun k => fa fun x p1 => fb p1 fun y p2 => k (decide (y ≤ x)) (p1, p2)) := lc_int op_ge (fun i j _ _ q => ⟨i, j, rfl, rfl, q⟩) ha hb
theorem lc_eqI (ha : LX X env a (it eI) e1 fa) (hb : ∀ p1, LX X (e1 p1) b (it eI) (e2 p1) (fb p1)) : LC X env .Eq a b (fun p : P1 × P2 => e2 p.1 p.2) (fun k => fa fun x p1 => fb p1 fun y p2 => k (decide (x = y)) (p1, p2)) :=
  lc_int op_eq (fun i j _ _ q => ⟨rfl, by simpa using q⟩) ha hb
theorem lc_neI (ha : LX X env a (it eI) e1 fa) (hb : ∀ p1, LX X (e1 p1) b (it eI) (e2 p1) (fb p1)) : LC X env .NotEq a b (fun p : P1 × P2 => e2 p.1 p.2) (fun k => fa fun x p1 => fb p1 fun y p2 => k (!decide (x = y)) (p1, p2)) :=
  lc_int op_ne (fun i j _ _ q => ⟨rfl, by simpa using q⟩) ha hb
end
/-! ### truth -/
theorem lt_val {e' : P → Env} {f : (Bool → P → Option Ω) → Option Ω} (h : LX X env a (it eB) e' f) (he : ∀ whole, isTrue a X.env whole = (do let v ← whole; standAt a.pos; holding [v] (truthy v)) := by intro _; rfl) : LT X env a e' f :=
  fun C F H σs es σ k ω Q hK hl hr hk q => tT.of X (pt_val (peC X) he) (lo_run (lo_of h) (fun _ => trivial) hK hl hr hk fun x p1 v F' H' fp hk' h' r => by
    obtain ⟨_, r⟩ := r
    cases r
    exact ⟨x, rfl, q x p1 F' H' hk' h'⟩)
theorem lt_not {e' : P → Env} {f : (Bool → P → Option Ω) → Option Ω} (h : LT X env a e' f) : LT X env (.UnaryOp .Not a pos) e' (fun k => f fun c p => k (!c) p) :=
  fun C F H σs es σ k ω Q hK hl hr hk q => tT.of X (pt_not (ptC X)) (h C F H σs es σ _ ω _ hK hl hr hk fun c p F' H' hk' h' => q _ p F' H' hk' h')
end
end Z

set_option Elab.async false
set_option linter.all false
set_option maxRecDepth 100000
namespace Z
open PySem PySem.Spec PyProof.Rows L2

/-! ### arguments -/
section
variable {X : Cx} {Ω : Type} {env : Env} {nm : Str} {pos : Pos} {a b e : Expr} {xs : List Expr} {P P1 P2 A : Type} {τ τ1 τ2 α β : Type} {S : Stor τ} {S1 : Stor τ1} {S2 : Stor τ2} {E : Enc τ} {E1 : Enc τ1} {E2 : Enc τ2}
  {G : Env → Prop} {G1 : Env → Prop} {G2 : P1 → Env → Prop} {e' : P → Env} {e1 : P1 → Env} {e2 : P1 → P2 → Env} {fa : (τ1 → P1 → Option Ω) → Option Ω} {fb : P1 → (τ2 → P2 → Option Ω) → Option Ω} {f : (τ → P → Option Ω) → Option Ω}

theorem la_nil : LA X env [] (fun _ : Unit => []) (fun _ : Unit => env) (fun (k : Unit → Unit → Option Ω) => k () ()) :=
  fun C F H σs es σ k ω Q hK hl h hk q => tAs.of X pa_nil (q () () [] F H hk rfl h)
theorem la_cons {sl : A → Env} {fr : P1 → (A → P2 → Option Ω) → Option Ω} (h1 : LX X env e S1 e1 fa) (h2 : ∀ p1, LA X (e1 p1) xs sl (e2 p1) (fr p1)) (hs : starEach (e :: xs) X.env = (false, eval e X.env) :: starEach xs X.env := by rfl) :
    LA X env (e :: xs) (fun p : τ1 × A => .st none τ1 S1 p.1 :: sl p.2) (fun p : P1 × P2 => e2 p.1 p.2) (fun k => fa fun x p1 => fr p1 fun r p2 => k (x, r) (p1, p2)) :=
  fun C F H σs es σ k ω Q hK hl h hk q => tAs.of X (pa_cons (peC X) (paC X) hs) (h1 C F H σs es σ _ ω _ hK hl h hk fun x p1 v F' H' hk' h' =>
    h2 p1 C F' H' (some v :: σs) (.st none τ1 S1 x :: es) σ _ ω _ hK (by simp [hl]) h' hk' fun r p2 vs F2 H2 hk2 hlv h3 => by
      refine q (x, r) (p1, p2) (v :: vs) F2 H2 hk2 (by simpa using hlv) ?_
      exact ER.rot (σt := vs.map some) (et := sl r) h3 hlv)
/-- a name by its value alone: lent to a call -/
theorem la_lend {sl : A → Env} {fr : (A → P → Option Ω) → Option Ω} (i : Nat) {w : Option V} {x : τ} (he : env[i]? = some (.st w τ S x)) (hN : X.N[i]? = some nm) (hv : Vis X.env.scope nm) (h2 : LA X env xs sl e' fr) (hd : (nm == ("__debug__" : Str)) = false := by decide) (hcd : (nm == ("__classdict__" : Str)) = false := by decide)
    (hs : starEach (Expr.Name nm pos :: xs) X.env = (false, eval (Expr.Name nm pos) X.env) :: starEach xs X.env := by rfl) :
    ∀ (C : Ck) (F H : Hp) (σs : List (Option V)) (es : Env) (σ : List (Option V)) (k : A → P → Option Ω) (ω : Ω) (Q : List V → Hp → Prop), C.K = X.K → σs.length = es.length → ER C F H (σs ++ σ) (es ++ env) → fr k = some ω →
    (∀ a p (v : V) (vs : List V) F' H', k a p = some ω → σ[i]? = some (some v) → (vs.map some).length = (sl a).length → ER C F' H' (vs.map some ++ (σs ++ σ)) (sl a ++ (es ++ e' p)) → Q (v :: vs) H') → tAs X (Expr.Name nm pos :: xs) σ H Q :=
  fun C F H σs es σ k ω Q hK hl h hk q => tAs.of X (pa_cons (peC X) (paC X) hs) (tE.of X (pe_var hN hv hd hcd) (by
    obtain ⟨v, fp, e1, r⟩ := h.lookF hl he
    exact ⟨v, e1, h2 C F H σs es σ k ω _ hK hl h hk fun a p vs F' H' hk' hlv h' => q a p v vs F' H' hk' e1 hlv h'⟩))
/-- shared slots and the data in them -/
inductive ShL : Env → List PyData → Prop
  | nil : ShL [] []
  | cons {τ : Type} {E : Enc τ} {x : τ} {en : Env} {ds : List PyData} : ShL en ds → ShL (.st none τ (it E) x :: en) (E.enc x :: ds)
theorem ShL.rep {C : Ck} {F H : Hp} : ∀ {sl : Env} {ds : List PyData}, ShL sl ds → ∀ {vs : List V} {σ : List (Option V)} {env : Env}, (vs.map some).length = sl.length → ER C F H (vs.map some ++ σ) (sl ++ env) → RepAll C.K F vs ds
  | _, _, .nil, vs, σ, env, hl, h => by
    cases vs with
    | nil => exact .nil
    | cons v vs => simp at hl
  | _, _, .cons r, vs, σ, env, hl, h => by
    cases vs with
    | nil => simp at hl
    | cons v vs =>
      obtain ⟨v', fp, e1, q⟩ := h.look (i := 0) rfl
      simp at e1; subst e1
      exact .cons q.2 (r.rep (by simpa using hl) h.pop)
theorem RepAll.zero {K : Fg} {F : Hp} {τ : Type} {E : Enc τ} {H : Hp} : ∀ {vs : List V} {xs : List τ}, RepAll K F vs (xs.map E.enc) → RelAll ((it E).rel K F H) [] vs xs
  | [], [], _ => .nil
  | [], _ :: _, h => by cases h
  | _ :: _, [], h => by cases h
  | v :: vs, x :: xs, h => by
    cases h with
    | cons h1 h2 => exact RelAll.cons (fp := []) (fps := []) ⟨rfl, h1⟩ (RepAll.zero h2)
theorem RelAll.zero {K : Fg} {F : Hp} {τ : Type} {E : Enc τ} {H : Hp} : ∀ {fp : List Addr} {vs : List V} {xs : List τ}, RelAll ((it E).rel K F H) fp vs xs → fp = [] ∧ RepAll K F vs (xs.map E.enc)
  | _, _, _, .nil => ⟨rfl, .nil⟩
  | _, _, _, .cons h r => by
    obtain ⟨e, q⟩ := RelAll.zero r
    obtain ⟨e2, q2⟩ := h
    exact ⟨by rw [e, e2]; rfl, .cons q2 q⟩
/-- a tuple -/
theorem lx_tup {sl : A → Env} {fs : (A → P → Option Ω) → Option Ω} {j : Nat} (h : LA X env xs sl e' fs) (E : Enc τ) (g : A → τ) (ds : A → List PyData) (hd : ∀ a, ShL (sl a) (ds a)) (he : ∀ a, E.enc (g a) = .tuple (ds a)) (hz : xs.length ≤ 1000 := by decide) (hz2 : ∀ a, (sl a).length = xs.length := by intro _; rfl) :
    LX X env (.Tuple xs j pos) (it E) e' (fun k => fs fun a p => k (g a) p) :=
  fun C F H σs es σ k ω Q hK hl hr hk q => tE.of X (pe_tup (paC X)) (h C F H σs es σ _ ω _ hK hl hr hk fun a p vs F' H' hk' hlv h' => by
    refine ⟨?_, fun t nt => ?_⟩
    · have := hz2 a; simp at hlv; exact Nat.le_of_lt (small1000 (by omega))
    · have r := (hd a).rep hlv h'
      refine q (g a) p (.ref t) (upd F' t (.tup vs)) _ hk' (((h'.popN hlv).newF nt).pushSh ?_)
      rw [he]
      exact .tup (SqT.of upd_same) (r.mono (same_new ((h'.popN hlv).fnone nt))))
/-- a list of shared things: a new one, of one's own -/
theorem lx_list {sl : A → Env} {fs : (A → P → Option Ω) → Option Ω} (h : LA X env xs sl e' fs) (E : Enc τ) (g : A → List τ) (hd : ∀ a, ShL (sl a) ((g a).map E.enc)) (hz : xs.length ≤ 1000 := by decide) (hz2 : ∀ a, (sl a).length = xs.length := by intro _; rfl) :
    LX X env (.List xs pos) (ls (it E)) e' (fun k => fs fun a p => k (g a) p) :=
  fun C F H σs es σ k ω Q hK hl hr hk q => tE.of X (pe_lst (paC X)) (h C F H σs es σ _ ω _ hK hl hr hk fun a p vs F' H' hk' hlv h' => by
    refine ⟨?_, fun t nt => ?_⟩
    · have := hz2 a; simp at hlv; exact Nat.le_of_lt (small1000 (by omega))
    · have r := (hd a).rep hlv h'
      exact q (g a) p (.ref t) F' _ hk' ((h'.popN hlv).newOw nt ⟨t, vs, [], rfl, upd_same, r.zero, rfl⟩))

/-! ### sequences that are read -/
/-- a list that is tracked -/
structure LVm (S : Stor τ) (S1 : Stor α) (g : τ → List α) : Prop where
  view : ∀ {K : Fg} {F H : Hp} {fp : List Addr} {v : V} {x : τ}, Same F H → S.rel K F H fp v x → ∃ p vs fps, v = .ref p ∧ H p = some (.lst vs) ∧ RelAll (S1.rel K F H) fps vs (g x)
/-- a list -/
structure LVw (S : Stor τ) (S1 : Stor α) (g : τ → List α) : Prop where
  view : ∀ {K : Fg} {F H : Hp} {fp : List Addr} {v : V} {x : τ}, Same F H → S.rel K F H fp v x → ∃ p vs fps, v = .ref p ∧ SqL K H p vs ∧ RelAll (S1.rel K F H) fps vs (g x)
structure TVw (S : Stor τ) (S1 : Stor α) (g : τ → List α) : Prop where
  view : ∀ {K : Fg} {F H : Hp} {fp : List Addr} {v : V} {x : τ}, Same F H → S.rel K F H fp v x → ∃ p vs fps, v = .ref p ∧ SqT K H p vs ∧ RelAll (S1.rel K F H) fps vs (g x)
theorem LVm.w {S1 : Stor α} {g : τ → List α} (h : LVm S S1 g) : LVw S S1 g := ⟨fun s r => let ⟨p, vs, fps, e, h1, h2⟩ := h.view s r; ⟨p, vs, fps, e, SqL.of h1, h2⟩⟩
theorem lm_sh : LVm (it (eL E)) (it E) id := ⟨fun {K F H fp v x} s r => by
  obtain ⟨_, r⟩ := r
  generalize hd : (eL E).enc x = d at r
  cases r with
  | lst h1 h2 =>
    simp only [eL] at hd
    injection hd with hd
    subst hd
    exact ⟨_, _, _, rfl, s _ _ h1, h2.zero⟩
  | _ => simp [eL] at hd⟩
theorem lm_ow {S1 : Stor α} : LVm (ls S1) S1 id := ⟨fun {K F H fp v x} s r => by
  obtain ⟨p, vs, fps, rfl, h, q, rfl⟩ := r
  exact ⟨p, vs, fps, rfl, h, q⟩⟩
theorem tv_sh : TVw (it (eV E)) (it E) id := ⟨fun {K F H fp v x} s r => by
  obtain ⟨_, r⟩ := r
  generalize hd : (eV E).enc x = d at r
  cases r with
  | tup h1 h2 =>
    simp only [eV] at hd
    injection hd with hd
    subst hd
    exact ⟨_, _, _, rfl, same_sqT s h1, h2.zero⟩
  | _ => simp [eV] at hd⟩
theorem atI_map {α β : Type} (f : α → β) (xs : List α) (i : Int) : atI (xs.map f) i = (atI xs i).map f := by
  unfold atI
  rw [List.length_map]
  cases ixN xs.length i with
  | none => rfl
  | some j => simp
theorem RepAll.at {K : Fg} {F : Hp} {vs : List V} {xs : List τ} {i : Int} {y : τ} (h : RepAll K F vs (xs.map E.enc)) (e : atI xs i = some y) : ∃ v, atI vs i = some v ∧ Rep K F v (E.enc y) := by
  have hl : vs.length = xs.length := by have := h.length; simpa using this
  unfold atI at e ⊢
  rw [hl]
  cases hj : ixN xs.length i with
  | none => rw [hj] at e; cases e
  | some j =>
    rw [hj] at e
    have e' : xs[j]? = some y := e
    obtain ⟨v, h1, h2⟩ := h.get (i := j) (d := E.enc y) (by rw [List.getElem?_map, e']; rfl)
    exact ⟨v, h1, h2⟩
/-- xs[i] of a list -/
theorem lx_ix {g : τ1 → List α} {E1 : Enc α} {fb : P1 → (Int → P2 → Option Ω) → Option Ω} (hv : LVw S1 (it E1) g) (ha : LO X G env a S1 e1 fa) (hb : ∀ p1, LX X (e1 p1) b (it eI) (e2 p1) (fb p1)) (hg : ∀ p1 p2, G (e2 p1 p2)) (hp : PlainIx b := by exact fun _ _ => rfl) :
    LX X env (.Subscript a b pos) (it E1) (fun p : P1 × P2 => e2 p.1 p.2) (fun k => fa fun x p1 => fb p1 fun i p2 => (atI (g x) i).bind fun y => k y (p1, p2)) :=
  fun C F H σs es σ k ω Q hK hl h hk q => tE.of X (pe_ix ix_list (peC X) (peC X) hp) (op2_run ha (fun p1 => lo_of (hb p1)) hg (fun _ _ => trivial) hK hl h hk
    fun x p1 i p2 v u F' H' fp fq hk' h' r1 r2 => by
      obtain ⟨y, hy, hk'⟩ := bind_some hk'
      obtain ⟨_, r2⟩ := r2
      cases r2
      obtain ⟨p, vs, fps, rfl, hs, ra⟩ := hv.view h'.sF r1
      obtain ⟨w, hw, rw'⟩ := ra.zero.2.at hy
      exact ⟨p, vs, i, w, rfl, rfl, by rw [← hK]; exact hs, hw, q y (p1, p2) w F' H' hk' (h'.pushSh rw')⟩)
/-- .. of a tuple of one kind -/
theorem lx_ixV {g : τ1 → List α} {E1 : Enc α} {fb : P1 → (Int → P2 → Option Ω) → Option Ω} (hv : TVw S1 (it E1) g) (ha : LO X G env a S1 e1 fa) (hb : ∀ p1, LX X (e1 p1) b (it eI) (e2 p1) (fb p1)) (hg : ∀ p1 p2, G (e2 p1 p2)) (hp : PlainIx b := by exact fun _ _ => rfl) :
    LX X env (.Subscript a b pos) (it E1) (fun p : P1 × P2 => e2 p.1 p.2) (fun k => fa fun x p1 => fb p1 fun i p2 => (atI (g x) i).bind fun y => k y (p1, p2)) :=
  fun C F H σs es σ k ω Q hK hl h hk q => tE.of X (pe_ix ix_tup (peC X) (peC X) hp) (op2_run ha (fun p1 => lo_of (hb p1)) hg (fun _ _ => trivial) hK hl h hk
    fun x p1 i p2 v u F' H' fp fq hk' h' r1 r2 => by
      obtain ⟨y, hy, hk'⟩ := bind_some hk'
      obtain ⟨_, r2⟩ := r2
      cases r2
      obtain ⟨p, vs, fps, rfl, hs, ra⟩ := hv.view h'.sF r1
      obtain ⟨w, hw, rw'⟩ := ra.zero.2.at hy
      exact ⟨p, vs, i, w, rfl, rfl, by rw [← hK]; exact hs, hw, q y (p1, p2) w F' H' hk' (h'.pushSh rw')⟩)
/-- the n-th part of a tuple that has parts of its own kinds -/
structure Part (E : Enc τ) (n : Int) (E1 : Enc α) (g : τ → α) : Prop where
  is : ∀ x, ∃ ds, E.enc x = .tuple ds ∧ atI ds n = some (E1.enc (g x))
theorem Rep.tup_inv {K : Fg} {F : Hp} {v : V} {ds : List PyData} (h : Rep K F v (.tuple ds)) : ∃ p vs, v = .ref p ∧ SqT K F p vs ∧ RepAll K F vs ds := by
  cases h with
  | tup h1 h2 => exact ⟨_, _, rfl, h1, h2⟩
theorem Rep.lst_inv {K : Fg} {F : Hp} {v : V} {ds : List PyData} (h : Rep K F v (.list ds)) : ∃ p vs, v = .ref p ∧ F p = some (.lst vs) ∧ RepAll K F vs ds := by
  cases h with
  | lst h1 h2 => exact ⟨_, _, rfl, h1, h2⟩
theorem RepAll.atD {K : Fg} {F : Hp} {vs : List V} {ds : List PyData} {i : Int} {y : PyData} (h : RepAll K F vs ds) (e : atI ds i = some y) : ∃ v, atI vs i = some v ∧ Rep K F v y := by
  have hl : vs.length = ds.length := h.length
  unfold atI at e ⊢
  rw [hl]
  cases hj : ixN ds.length i with
  | none => rw [hj] at e; cases e
  | some j =>
    rw [hj] at e
    exact h.get e
theorem lx_part {n : Int} {g : τ1 → α} {E' : Enc α} {j : Nat} {cp : Pos} (hp : Part E1 n E' g) (ha : LX X env a (it E1) e1 fa) :
    LX X env (.Subscript a (.Constant (.int n) j cp) pos) (it E') e1 (fun k => fa fun x p1 => k (g x) p1) :=
  fun C F H σs es σ k ω Q hK hl h hk q => tE.of X (pe_ix ix_tup (peC X) pe_int fun _ _ => rfl) (lo_run (lo_of ha) (fun _ => trivial) hK hl h hk
    fun x p1 v F' H' fp hk' h' r1 => by
      obtain ⟨_, r1⟩ := r1
      obtain ⟨ds, e1, e2⟩ := hp.is x
      rw [e1] at r1
      obtain ⟨p, vs, rfl, h1, h2⟩ := r1.tup_inv
      obtain ⟨w, hw, rw'⟩ := h2.atD e2
      exact ⟨p, vs, n, w, rfl, rfl, by rw [← hK]; exact same_sqT h'.sF h1, hw, q (g x) p1 w F' H' hk' (h'.pushSh rw')⟩)
/-- .. n below 0: -1 -/
theorem lx_partN {n : Int} {g : τ1 → α} {E' : Enc α} {j : Nat} {cp up : Pos} (hp : Part E1 (-n) E' g) (ha : LX X env a (it E1) e1 fa) :
    LX X env (.Subscript a (.UnaryOp .USub (.Constant (.int n) j cp) up) pos) (it E') e1 (fun k => fa fun x p1 => k (g x) p1) :=
  fun C F H σs es σ k ω Q hK hl h hk q => tE.of X (pe_ix ix_tup (peC X) (pe_un un_neg pe_int) fun _ _ => rfl) (lo_run (lo_of ha) (fun _ => trivial) hK hl h hk
    fun x p1 v F' H' fp hk' h' r1 => by
      obtain ⟨_, r1⟩ := r1
      obtain ⟨ds, e1, e2⟩ := hp.is x
      rw [e1] at r1
      obtain ⟨p, vs, rfl, h1, h2⟩ := r1.tup_inv
      obtain ⟨w, hw, rw'⟩ := h2.atD e2
      exact ⟨n, rfl, p, vs, -n, w, rfl, rfl, by rw [← hK]; exact same_sqT h'.sF h1, hw, q (g x) p1 w F' H' hk' (h'.pushSh rw')⟩)
theorem part2_0 {A : Enc α} {B : Enc β} : Part (eT2 A B) 0 A (·.1) := ⟨fun _ => ⟨_, rfl, rfl⟩⟩
theorem part2_1 {A : Enc α} {B : Enc β} : Part (eT2 A B) 1 B (·.2) := ⟨fun _ => ⟨_, rfl, rfl⟩⟩
theorem part3_0 {γ : Type} {A : Enc α} {B : Enc β} {D : Enc γ} : Part (eT3 A B D) 0 A (·.1) := ⟨fun _ => ⟨_, rfl, rfl⟩⟩
theorem part3_1 {γ : Type} {A : Enc α} {B : Enc β} {D : Enc γ} : Part (eT3 A B D) 1 B (·.2.1) := ⟨fun _ => ⟨_, rfl, rfl⟩⟩
theorem part3_2 {γ : Type} {A : Enc α} {B : Enc β} {D : Enc γ} : Part (eT3 A B D) 2 D (·.2.2) := ⟨fun _ => ⟨_, rfl, rfl⟩⟩
theorem part4_0 {γ δ : Type} {A : Enc α} {B : Enc β} {D : Enc γ} {D' : Enc δ} : Part (eT4 A B D D') 0 A (·.1) := ⟨fun _ => ⟨_, rfl, rfl⟩⟩
theorem part4_1 {γ δ : Type} {A : Enc α} {B : Enc β} {D : Enc γ} {D' : Enc δ} : Part (eT4 A B D D') 1 B (·.2.1) := ⟨fun _ => ⟨_, rfl, rfl⟩⟩
theorem part4_2 {γ δ : Type} {A : Enc α} {B : Enc β} {D : Enc γ} {D' : Enc δ} : Part (eT4 A B D D') 2 D (·.2.2.1) := ⟨fun _ => ⟨_, rfl, rfl⟩⟩
theorem part4_3 {γ δ : Type} {A : Enc α} {B : Enc β} {D : Enc γ} {D' : Enc δ} : Part (eT4 A B D D') 3 D' (·.2.2.2) := ⟨fun _ => ⟨_, rfl, rfl⟩⟩
end
end Z

set_option Elab.async false
set_option linter.all false
set_option maxRecDepth 100000
namespace Z
open PySem PySem.Spec PyProof.Rows L2

/-! ### targets -/
def Eqo (ix : List Nat) (σ σ' : List (Option V)) : Prop := σ'.length = σ.length ∧ ∀ j, j ∉ ix → σ'[j]? = σ[j]?
theorem Eqo.refl (ix : List Nat) (σ : List (Option V)) : Eqo ix σ σ := ⟨rfl, fun _ _ => rfl⟩
theorem Eqo.trans {ix : List Nat} {a b c : List (Option V)} (h : Eqo ix a b) (g : Eqo ix b c) : Eqo ix a c := ⟨g.1.trans h.1, fun j m => (g.2 j m).trans (h.2 j m)⟩
theorem Eqo.mono {ix iy : List Nat} {a b : List (Option V)} (h : Eqo ix a b) (s : ∀ j ∈ ix, j ∈ iy) : Eqo iy a b := ⟨h.1, fun j m => h.2 j fun z => m (s j z)⟩
theorem Eqo.set {σ : List (Option V)} {i : Nat} {o : Option V} : Eqo [i] σ (σ.set i o) := ⟨by simp, fun j m => List.getElem?_set_ne (by simp at m; omega)⟩
theorem wipe_get (σ : List (Option V)) : ∀ (vs : List Nat) (j : Nat), (wipe σ vs)[j]? = if j ∈ vs then (if j < σ.length then some none else none) else σ[j]?
  | [], j => by simp [wipe]
  | v :: vs, j => by
    unfold wipe
    by_cases e : v = j
    · subst e
      by_cases hl : v < σ.length
      · rw [List.getElem?_set_self (by rw [wipe_length]; exact hl)]; simp [hl]
      · rw [List.getElem?_eq_none (by rw [List.length_set, wipe_length]; omega)]; simp [hl]
    · rw [List.getElem?_set_ne e, wipe_get σ vs j]
      have : (j ∈ v :: vs) = (j ∈ vs) := by simp; intro z; exact absurd z.symm e
      simp only [this]
theorem Eqo.wipe {ix : List Nat} {a b : List (Option V)} (h : Eqo ix a b) : wipe b ix = wipe a ix := by
  apply List.ext_getElem?
  intro j
  rw [wipe_get, wipe_get, h.1]
  by_cases m : j ∈ ix
  · rw [if_pos m, if_pos m]
  · rw [if_neg m, if_neg m]; exact h.2 j m
section
variable (X : Cx)
def tG (tg : Expr) : TG := fun v σ H Q => ∀ pins s u, Inv X pins σ H s → RelV v u → wpAny (model X.prog X.w) X.A (assign tg X.env u) (fun _ s' => ∃ σ' H', Inv X pins σ' H' s' ∧ Q σ' H') X.xe s
def tGs (ts : List Expr) : TGs := fun vs σ H Q => ∀ pins s us, Inv X pins σ H s → Vals vs us → wpAny (model X.prog X.w) X.A (assignInOrder ((assignEach ts X.env).map (·.2)) us) (fun _ s' => ∃ σ' H', Inv X pins σ' H' s' ∧ Q σ' H') X.xe s
theorem pgC {tg : Expr} : PG X tg (tG X tg) := ⟨fun pins s σ H v u Q I r h => h pins s u I r⟩
theorem pgsC {ts : List Expr} : PGs X ts (tGs X ts) := ⟨fun pins s σ H vs us Q I r h => h pins s us I r⟩
theorem tG.of {tg : Expr} {t : TG} {v : V} {σ : L2.St} {H : Hp} {Q : L2.St → Hp → Prop} (h : PG X tg t) (q : t v σ H Q) : tG X tg v σ H Q := fun pins s u I r => h.run pins s σ H v u Q I r q
theorem tGs.of {ts : List Expr} {t : TGs} {vs : List V} {σ : L2.St} {H : Hp} {Q : L2.St → Hp → Prop} (h : PGs X ts t) (q : t vs σ H Q) : tGs X ts vs σ H Q := fun pins s us I r => h.run pins s σ H vs us Q I r q
/-- a target: where its value goes -/
def LG (ix : List Nat) (env : Env) (tg : Expr) {τ : Type} (S : Stor τ) (envT : τ → Env) : Prop :=
  ∀ (C : Ck) (F H : Hp) (σs : List (Option V)) (es : Env) (σ : List (Option V)) (v : V) (a : τ) (Q : L2.St → Hp → Prop), C.K = X.K → σs.length = es.length → ER C F H (some v :: (σs ++ σ)) (.st none τ S a :: (es ++ env)) →
    (∀ σ', Eqo ix σ σ' → ER C F H (σs ++ σ') (es ++ envT a) → Q σ' H) → tG X tg v σ H Q
/-- targets for the parts of a tuple -/
def LGs (ix : List Nat) (env : Env) (tgs : List Expr) {A : Type} (sl : A → Env) (envT : A → Env) : Prop :=
  ∀ (C : Ck) (F H : Hp) (σs : List (Option V)) (es : Env) (σ : List (Option V)) (vs : List V) (a : A) (Q : L2.St → Hp → Prop), C.K = X.K → σs.length = es.length → (vs.map some).length = (sl a).length → ER C F H (vs.map some ++ (σs ++ σ)) (sl a ++ (es ++ env)) →
    (∀ σ', Eqo ix σ σ' → ER C F H (σs ++ σ') (es ++ envT a) → Q σ' H) → tGs X tgs vs σ H Q
end
section
variable {X : Cx} {Ω : Type} {env : Env} {nm : Str} {pos : Pos} {a b e tg : Expr} {xs tgs : List Expr} {P P1 P2 A : Type} {τ τ1 τ2 α β : Type} {S : Stor τ} {S1 : Stor τ1} {S2 : Stor τ2} {E : Enc τ} {E1 : Enc τ1} {E2 : Enc τ2} {ix : List Nat}
theorem lg_name (i : Nat) (hN : X.N.Nodup) (hi : X.N[i]? = some nm := by rfl) (hx : Loc X.env.scope nm := by first | exact Or.inl rfl | exact Or.inr rfl) (hl : i < env.length := by exact (Nat.lt_of_sub_eq_succ rfl)) (hf : X.fn nm = true ∨ X.env.scope.names.lookup nm = some .local := by first | exact .inl rfl | exact .inr rfl) : LG X [i] env (.Name nm pos) S (fun a => env.set i (.st none τ S a)) :=
  fun C F H σs es σ v a Q hK hls h q => tG.of X (pg_name hN hi hx hf) (q _ Eqo.set (h.asg hls hl))
theorem lgs_nil : LGs X [] env [] (fun _ : Unit => []) (fun _ : Unit => env) := fun C F H σs es σ vs a Q hK hl hv h q => tGs.of X pgs_nil (by
  cases vs with
  | nil => exact ⟨rfl, q σ (Eqo.refl _ _) h⟩
  | cons v vs => simp at hv)
theorem lgs_cons {i1 i2 : List Nat} {env1 : τ → Env} {sl : A → Env} {env2 : τ → A → Env} (h1 : LG X i1 env tg S env1) (h2 : ∀ x, LGs X i2 (env1 x) tgs sl (env2 x))
    (hs : (assignEach (tg :: tgs) X.env).map (·.2) = assign tg X.env :: (assignEach tgs X.env).map (·.2) := by rfl) : LGs X (i1 ++ i2) env (tg :: tgs) (fun p : τ × A => .st none τ S p.1 :: sl p.2) (fun p : τ × A => env2 p.1 p.2) :=
  fun C F H σs es σ vs a Q hK hl hv h q => tGs.of X (pgs_cons (pgC X) (pgsC X) hs) (by
    cases vs with
    | nil => simp at hv
    | cons v vs =>
      have hv' : (vs.map some).length = (sl a.2).length := by simpa using hv
      refine ⟨v, vs, rfl, h1 C F H (vs.map some ++ σs) (sl a.2 ++ es) σ v a.1 _ hK (by simp [hl]; simpa using hv') (by simpa [List.append_assoc] using h) fun σ' e1 h' => ?_⟩
      exact h2 a.1 C F H σs es σ' vs a.2 Q hK hl hv' (by simpa [List.append_assoc] using h') fun σ2 e2 h3 => q σ2 ((e1.mono fun j m => List.mem_append_left _ m).trans (e2.mono fun j m => List.mem_append_right _ m)) h3)
/-- data that stand on the stack as shared slots -/
theorem ER.pushAll {C : Ck} {F H : Hp} : ∀ {sl : Env} {ds : List PyData}, ShL sl ds → ∀ {vs : List V} {σ : List (Option V)} {env : Env}, RepAll C.K F vs ds → ER C F H σ env → (vs.map some).length = sl.length ∧ ER C F H (vs.map some ++ σ) (sl ++ env)
  | _, _, .nil, _, σ, env, r, h => by cases r; exact ⟨rfl, h⟩
  | _, _, .cons q, _, σ, env, r, h => by
    cases r with
    | cons r1 r2 =>
      obtain ⟨e, h'⟩ := ER.pushAll q r2 h
      exact ⟨by simpa using e, h'.pushSh r1⟩
theorem lg_tup {sl : A → Env} {envT : A → Env} {j n : Nat} (h : LGs X ix env tgs sl envT) (g : τ → A) (ds : A → List PyData) (hd : ∀ a, ShL (sl a) (ds a)) (he : ∀ x, E.enc x = .tuple (ds (g x))) (hc : X.calm = true)
    (hz : ∀ a, (sl a).length = n) (hn : (assignEach tgs X.env).length = n := by rfl) (hst : (assignEach tgs X.env).findIdx? (·.1) = none := by rfl) : LG X ix env (.Tuple tgs j pos) (it E) (fun x => envT (g x)) :=
  fun C F H σs es σ v a Q hK hl hr q => tG.of X (pg_tup hc (pgsC X) hn hst) (by
    obtain ⟨v', fp, e1, r⟩ := hr.look (i := 0) rfl
    simp at e1; subst e1
    obtain ⟨_, r⟩ := r
    rw [he] at r
    obtain ⟨p, vs, rfl, h1, h2⟩ := r.tup_inv
    obtain ⟨hlv, h'⟩ := ER.pushAll (hd (g a)) h2 hr.pop
    have hl2 : vs.length = n := by have := hz (g a); simp at hlv; omega
    exact ⟨p, vs, rfl, by rw [← hK]; exact same_sqT hr.sF h1, hl2, h C F H σs es σ vs (g a) Q hK hl hlv h' q⟩)
end

/-! ### what is walked -/
section
variable (X : Cx) {Ω : Type}
def tI (tg iter : Expr) : TI := fun σ H R => ∀ pins s, Inv X pins σ H s → wpAny (model X.prog X.w) X.A (eval iter X.env) (fun v s1 => wpAny (model X.prog X.w) X.A (pyIter v) (PIE X pins σ tg R) X.xe s1) X.xe s
theorem piC {tg iter : Expr} : PI X tg iter (tI X tg iter) := ⟨fun pins s σ H R I h => h pins s I⟩
theorem tI.of {tg iter : Expr} {t : TI} {σ : L2.St} {H : Hp} {R : It → Hp → Prop} (h : PI X tg iter t) (q : t σ H R) : tI X tg iter σ H R := fun pins s I => h.run pins s σ H R I q
/-- J yields xs, as long as the stack's top stands; each item may make new things -/
structure Yields (C : Ck) {α : Type} (S : Stor α) (J : It) (xs : List α) (σx : List (Option V)) (ex : Env) : Prop where
  len : σx.length = ex.length
  go : ∀ (i : Nat) (F H : Hp) (σ2 σb : List (Option V)) (e2 eb : Env), σ2.length = e2.length → ER C F H (σ2 ++ (σx ++ σb)) (e2 ++ (ex ++ eb)) →
    (∀ x, xs[i]? = some x → J.go i H ∧ ∀ v H', J.yld i H v H' → ∃ F', ER C F' H' (some v :: (σ2 ++ (σx ++ σb))) (.st none α S x :: (e2 ++ (ex ++ eb)))) ∧ (xs[i]? = none → J.stop i H)
def LI (env : Env) (tg iter : Expr) {α : Type} (S : Stor α) {P : Type} (env' : P → Env) (f : (List α → P → Option Ω) → Option Ω) : Prop :=
  ∀ (C : Ck) (F H : Hp) (σs : List (Option V)) (es : Env) (σ : List (Option V)) (k : List α → P → Option Ω) (ω : Ω) (R : It → Hp → Prop), C.K = X.K → σs.length = es.length → ER C F H (σs ++ σ) (es ++ env) → f k = some ω →
    (∀ xs p J F' H' (σx : List (Option V)) (ex : Env), k xs p = some ω → ER C F' H' (σx ++ (σs ++ σ)) (ex ++ (es ++ env' p)) → Yields C S J xs σx ex → R J H') → tI X tg iter σ H R
end
section
variable {X : Cx} {Ω : Type} {env : Env} {nm : Str} {pos : Pos} {a b e tg : Expr} {xs tgs : List Expr} {P P1 P2 A : Type} {τ τ1 τ2 α β : Type} {S : Stor τ} {S1 : Stor τ1} {S2 : Stor τ2} {E : Enc τ} {E1 : Enc τ1} {E2 : Enc τ2} {ix : List Nat} {e' : P → Env} {e1 : P1 → Env} {e2 : P1 → P2 → Env}
theorem li_list {g : τ → List α} {Ea : Enc α} {f : (τ → P → Option Ω) → Option Ω} (hv : LVw S (it Ea) g) (h : LX X env e S e' f) : LI X env tg e (it Ea) e' (fun k => f fun x p => k (g x) p) :=
  fun C F H σs es σ k ω R hK hl hr hk q => tI.of X (pi_list (peC X)) (h C F H σs es σ _ ω _ hK hl hr hk fun x p v F' H' hk' h' => by
    obtain ⟨v', fp, e1, r⟩ := h'.look (i := 0) rfl
    simp at e1; subst e1
    obtain ⟨p0, vs, fps, rfl, hs, ra⟩ := hv.view h'.sF r
    refine ⟨p0, rfl, ⟨vs, by rw [← hK]; exact hs⟩, q (g x) p (Itl X.K p0) F' H' [some (.ref p0)] [.st none τ S x] hk' h' ⟨rfl, fun i F2 H2 σ2 σb e2 eb hl2 h2 => ?_⟩⟩
    obtain ⟨v', fp', e1, r'⟩ := h2.look (i := e2.length + 0) (by rw [at_app _ rfl]; rfl)
    rw [at_app _ hl2] at e1
    simp at e1; subst e1
    obtain ⟨p1, ws, fps', e3, hs', ra'⟩ := hv.view h2.sF r'
    cases e3
    rw [hK] at hs'
    have rp := ra'.zero.2
    refine ⟨fun y hy => ?_, fun hn => ?_⟩
    · obtain ⟨w, hw, rw'⟩ := rp.get (i := i) (d := Ea.enc y) (by rw [List.getElem?_map, hy]; rfl)
      refine ⟨⟨ws, w, hs', hw⟩, fun v H' hy' => ⟨F2, ?_⟩⟩
      obtain ⟨e4, hy'⟩ := hy'
      have := hy' ws hs'
      rw [hw] at this; cases this
      rw [e4]
      exact h2.pushSh rw'
    · refine ⟨ws, hs', ?_⟩
      have := rp.length
      simp at this
      have := List.getElem?_eq_none_iff.mp hn
      omega)
/-- the ints of a range -/
def rangeL (lo hi : Int) : List Int := (List.range (hi - lo).toNat).map fun i => lo + (i : Nat)
def rgOk (lo hi : Int) : Bool := decide (-(2 ^ 62) ≤ lo ∧ lo < 2 ^ 62 ∧ -(2 ^ 62) ≤ hi ∧ hi < 2 ^ 62)
theorem yields_range {C : Ck} {lo : Int} {hi : Int} : Yields C (it eI) (Itr lo (hi - lo).toNat) (rangeL lo hi) [] [] := ⟨rfl, fun i F H σ2 σb e2 eb hl2 h2 => by
  refine ⟨fun y hy => ?_, fun hn => ?_⟩
  · unfold rangeL at hy
    rw [List.getElem?_map] at hy
    by_cases hi : i < (hi - lo).toNat
    · rw [List.getElem?_range hi] at hy
      simp at hy; subst hy
      refine ⟨hi, fun v H' hy' => ⟨F, ?_⟩⟩
      obtain ⟨e1, e2⟩ := hy'
      rw [e1, e2]
      exact h2.pushSh (.int _)
    · rw [List.getElem?_eq_none (by simpa using hi)] at hy; cases hy
  · unfold rangeL at hn
    rw [List.getElem?_eq_none_iff] at hn
    simp at hn
    show (hi - lo).toNat ≤ i
    omega⟩
theorem li_range2 {f1 : (Int → P1 → Option Ω) → Option Ω} {f2 : P1 → (Int → P2 → Option Ω) → Option Ω} {p : Pos} (hg : Gl X "range") (hm : X.mg "range" = none) (h1 : LX X env a (it eI) e1 f1) (h2 : ∀ p1, LX X (e1 p1) b (it eI) (e2 p1) (f2 p1))
    (hs : starEach [a, b] X.env = [(false, eval a X.env), (false, eval b X.env)] := by rfl) (hs2 : starEach [b] X.env = [(false, eval b X.env)] := by rfl) (hs3 : starEach [a, b] X.env = (false, eval a X.env) :: starEach [b] X.env := by rfl) (hs4 : starEach [b] X.env = (false, eval b X.env) :: starEach [] X.env := by rfl) :
    LI X env tg (.Call (.Name "range" p) [a, b] [] pos) (it eI) (fun q : P1 × P2 => e2 q.1 q.2) (fun k => f1 fun x p1 => f2 p1 fun y p2 => ck (rgOk x y) (k (rangeL x y) (p1, p2))) :=
  fun C F H σs es σ k ω R hK hl hr hk q => tI.of X (pi_range2 hg hm (pa_cons (peC X) (pa_cons (peC X) pa_nil hs4) hs3) hs hs2) (op2_run (lo_of h1) (fun p1 => lo_of (h2 p1)) (fun _ _ => trivial) (fun _ _ => trivial) hK hl hr hk
    fun x p1 y p2 v u F' H' fp fq hk' h' r1 r2 => by
      obtain ⟨hc, hk'⟩ := ck_some hk'
      obtain ⟨_, r1⟩ := r1
      obtain ⟨_, r2⟩ := r2
      cases r1; cases r2
      exact ⟨x, y, rfl, of_decide_eq_true (p := -(2 ^ 62) ≤ x ∧ x < 2 ^ 62 ∧ -(2 ^ 62) ≤ y ∧ y < 2 ^ 62) hc, q (rangeL x y) (p1, p2) _ F' H' [] [] hk' h' yields_range⟩)
theorem li_range1 {f1 : (Int → P1 → Option Ω) → Option Ω} {p : Pos} (hg : Gl X "range") (hm : X.mg "range" = none) (h1 : LX X env a (it eI) e1 f1)
    (hs : starEach [a] X.env = [(false, eval a X.env)] := by rfl) (hs4 : starEach [a] X.env = (false, eval a X.env) :: starEach [] X.env := by rfl) :
    LI X env tg (.Call (.Name "range" p) [a] [] pos) (it eI) e1 (fun k => f1 fun y p1 => ck (rgOk 0 y) (k (rangeL 0 y) p1)) :=
  fun C F H σs es σ k ω R hK hl hr hk q => tI.of X (pi_range1 hg hm (pa_cons (peC X) pa_nil hs4) hs) (lo_run (lo_of h1) (fun _ => trivial) hK hl hr hk
    fun y p1 v F' H' fp hk' h' r1 => by
      obtain ⟨hc, hk'⟩ := ck_some hk'
      obtain ⟨_, r1⟩ := r1
      cases r1
      have hc' := of_decide_eq_true (p := -(2 ^ 62) ≤ (0 : Int) ∧ (0 : Int) < 2 ^ 62 ∧ -(2 ^ 62) ≤ y ∧ y < 2 ^ 62) hc
      have e0 : (y - 0).toNat = y.toNat := by omega
      refine ⟨y, rfl, hc'.2.2.1, hc'.2.2.2, ?_⟩
      rw [← e0]
      exact q (rangeL 0 y) p1 _ F' H' [] [] hk' h' yields_range)
end

/-! ### statements -/
/-- a loop over items: go on, or out -/
def forO {α S Ω : Type} : List α → S → (α → S → (S → Option Ω) → Option Ω) → (S → Option Ω) → Option Ω
  | [], s, _, k => k s
  | x :: xs, s, b, k => b x s fun s' => forO xs s' b k
/-- a loop with fuel -/
def whileO {S Ω : Type} : Nat → S → (S → (S → Option Ω) → Option Ω) → Option Ω
  | 0, _, _ => none
  | n + 1, s, b => b s fun s' => whileO n s' b
section
variable {X : Cx} {R I Ω : Type} {SR : Stor R} {envR : I → Env} {kr : R → I → Option Ω} {bk ct : Lp Ω} {env : Env} {nm : Str} {pos : Pos} {c e tg iter : Expr} {sts sa sb rest : List Stmt} {P A : Type} {τ α : Type} {S : Stor τ} {Sa : Stor α} {e' : P → Env} {ix : List Nat} {J J1 : Type} {envJ : J → Env} {env1 : J1 → Env}
theorem lb_end (j : J) (hs : Sub env (envJ j)) : LB X SR envR kr bk ct env [] envJ (fun kn => kn j) :=
  fun C F H σs es σ kn ω D hK hl h hk qn qb qc qr => tSs.of X pss_nil (qn j F H σ hk (h.subF hs))
theorem lb_sub {env0 : Env} {f : (J → Option Ω) → Option Ω} (hs : Sub env env0) (h : LB X SR envR kr bk ct env0 sts envJ f) : LB X SR envR kr bk ct env sts envJ f :=
  fun C F H σs es σ kn ω D hK hl hr hk qn qb qc qr => h C F H σs es σ kn ω D hK hl (hr.subF hs) hk qn qb qc qr
/-- a slot is shared from here on -/
theorem lb_frz {E : Enc τ} {x : τ} {f : (J → Option Ω) → Option Ω} (i : Nat) (fz : Frz S E) (he : env[i]? = some (.st none τ S x)) (h : LB X SR envR kr bk ct (env.set i (.st none τ (it E) x)) sts envJ f) : LB X SR envR kr bk ct env sts envJ f :=
  fun C F H σs es σ kn ω D hK hl hr hk qn qb qc qr => by
    obtain ⟨F', sF, h'⟩ := hr.freeze (i := es.length + i) fz (by rw [at_app _ rfl]; exact he)
    rw [List.set_append_right _ _ (Nat.le_add_right _ _), Nat.add_sub_cancel_left] at h'
    exact h C F' H σs es σ kn ω D hK hl h' hk qn qb qc qr
theorem lb_asg {f : (τ → P → Option Ω) → Option Ω} {fr : τ → P → (J → Option Ω) → Option Ω} {envT : P → τ → Env} (he : LX X env e S e' f) (hg : ∀ p, LG X ix (e' p) tg S (envT p)) (hr : ∀ x p, LB X SR envR kr bk ct (envT p x) rest envJ (fr x p))
    (hs : swapsWithSole [tg] e pos.line X.env = pure false := by rfl) (hw : swappedStores [tg] e X.env = pure none := by rfl) (h1 : (assignEach [tg] X.env).map (·.2) = [assign tg X.env] := by rfl) :
    LB X SR envR kr bk ct env (.Assign [tg] e pos :: rest) envJ (fun kn => f fun x p => fr x p kn) :=
  fun C F H σs es σ kn ω D hK hl h hk qn qb qc qr => tSs.of X (pss_cons (ps_asg (peC X) (pgC X) hs hw h1) (pssC X)) (he C F H σs es σ _ ω _ hK hl h hk fun x p v F' H' hk' h' =>
    hg p C F' H' σs es σ v x _ hK hl h' fun σ' _ h2 => hr x p C F' H' σs es σ' kn ω D hK hl h2 hk' qn qb qc qr)
theorem lb_set {f : (τ → P → Option Ω) → Option Ω} {fr : τ → P → (J → Option Ω) → Option Ω} {pos' : Pos} (i : Nat) (hN : X.N.Nodup) (he : LX X env e S e' f) (hr : ∀ x p, LB X SR envR kr bk ct ((e' p).set i (.st none τ S x)) rest envJ (fr x p))
    (hi : X.N[i]? = some nm := by rfl) (hx : Loc X.env.scope nm := by first | exact Or.inl rfl | exact Or.inr rfl) (hlt : ∀ p, i < (e' p).length := by exact (fun _ => Nat.lt_of_sub_eq_succ rfl)) (hf : X.fn nm = true ∨ X.env.scope.names.lookup nm = some .local := by first | exact .inl rfl | exact .inr rfl) (hs : swapsWith e (some (.Name nm pos')) pos.line X.env = pure false := by rfl) :
    LB X SR envR kr bk ct env (.Assign [.Name nm pos'] e pos :: rest) envJ (fun kn => f fun x p => fr x p kn) :=
  fun C F H σs es σ kn ω D hK hl h hk qn qb qc qr => tSs.of X (pss_cons (ps_set hN hi hx (peC X) hs hf) (pssC X)) (he C F H σs es σ _ ω _ hK hl h hk fun x p v F' H' hk' h' =>
    hr x p C F' H' σs es (σ.set i (some v)) kn ω D hK hl (h'.asg hl (hlt p)) hk' qn qb qc qr)
theorem lb_if {f : (Bool → P → Option Ω) → Option Ω} {fa fb : P → (J1 → Option Ω) → Option Ω} {fr : J1 → (J → Option Ω) → Option Ω} (hc : LT X env c e' f) (ha : ∀ p, LB X SR envR kr bk ct (e' p) sa env1 (fa p)) (hb : ∀ p, LB X SR envR kr bk ct (e' p) sb env1 (fb p)) (hr : ∀ j, LB X SR envR kr bk ct (env1 j) rest envJ (fr j)) :
    LB X SR envR kr bk ct env (.If c sa sb pos :: rest) envJ (fun kn => f fun b p => if b = true then fa p fun j => fr j kn else fb p fun j => fr j kn) :=
  fun C F H σs es σ kn ω D hK hl h hk qn qb qc qr => tSs.of X (pss_cons (ps_if (ptC X) (pssC X) (pssC X)) (pssC X)) (hc C F H σs es σ _ ω _ hK hl h hk fun b p F' H' hk' h' => by
    cases b with
    | true =>
      rw [if_pos rfl] at hk'
      show if true = true then _ else _
      rw [if_pos rfl]
      exact ha p C F' H' σs es σ _ ω _ hK hl h' hk' (fun j F2 H2 σ2 hk2 h2 => hr j C F2 H2 σs es σ2 kn ω D hK hl h2 hk2 qn qb qc qr) qb qc qr
    | false =>
      rw [if_neg Bool.false_ne_true] at hk'
      show if false = true then _ else _
      rw [if_neg Bool.false_ne_true]
      exact hb p C F' H' σs es σ _ ω _ hK hl h' hk' (fun j F2 H2 σ2 hk2 h2 => hr j C F2 H2 σs es σ2 kn ω D hK hl h2 hk2 qn qb qc qr) qb qc qr)
/-- an if whose body never goes on -/
theorem lb_ifr {f : (Bool → P → Option Ω) → Option Ω} {fa : P → (Empty → Option Ω) → Option Ω} {fr : P → (J → Option Ω) → Option Ω} (hc : LT X env c e' f) (ha : ∀ p, LB X SR envR kr bk ct (e' p) sa (fun z : Empty => z.elim) (fa p)) (hr : ∀ p, LB X SR envR kr bk ct (e' p) rest envJ (fr p)) :
    LB X SR envR kr bk ct env (.If c sa [] pos :: rest) envJ (fun kn => f fun b p => if b = true then fa p (fun z => z.elim) else fr p kn) :=
  fun C F H σs es σ kn ω D hK hl h hk qn qb qc qr => tSs.of X (pss_cons (ps_if (ptC X) (pssC X) pss_nil) (pssC X)) (hc C F H σs es σ _ ω _ hK hl h hk fun b p F' H' hk' h' => by
    cases b with
    | true =>
      rw [if_pos rfl] at hk'
      show if true = true then _ else _
      rw [if_pos rfl]
      exact ha p C F' H' σs es σ _ ω _ hK hl h' hk' (fun z => z.elim) qb qc qr
    | false =>
      rw [if_neg Bool.false_ne_true] at hk'
      show if false = true then _ else _
      rw [if_neg Bool.false_ne_true]
      exact hr p C F' H' σs es σ kn ω D hK hl h' hk' qn qb qc qr)
theorem lb_ret {f : (R → P → Option Ω) → Option Ω} (he : LX X env e SR e' f) (g : P → I) (hs : ∀ p, Sub (e' p) (envR (g p))) : LB X SR envR kr bk ct env (.Return (some e) pos :: rest) envJ (fun _ => f fun x p => kr x (g p)) :=
  fun C F H σs es σ kn ω D hK hl h hk qn qb qc qr => tSs.of X (pss_cons (ps_ret (peC X)) (pssC X)) (he C F H σs es σ _ ω _ hK hl h hk fun x p v F' H' hk' h' =>
    qr x (g p) v F' H' σ hk' (ER.sub h' (.keep ((hs p).pre es))))
theorem lb_brk (j : bk.J) (hs : Sub env (bk.env j)) : LB X SR envR kr bk ct env (.Break pos :: rest) envJ (fun _ => bk.k j) :=
  fun C F H σs es σ kn ω D hK hl h hk qn qb qc qr => tSs.of X (pss_cons ps_break (pssC X)) (qb j F H σ hk (h.subF hs))
theorem lb_cont (j : ct.J) (hs : Sub env (ct.env j)) : LB X SR envR kr bk ct env (.Continue pos :: rest) envJ (fun _ => ct.k j) :=
  fun C F H σs es σ kn ω D hK hl h hk qn qb qc qr => tSs.of X (pss_cons ps_continue (pssC X)) (qc j F H σ hk (h.subF hs))
theorem lb_pass {f : (J → Option Ω) → Option Ω} (hr : LB X SR envR kr bk ct env rest envJ f) : LB X SR envR kr bk ct env (.Pass pos :: rest) envJ f :=
  fun C F H σs es σ kn ω D hK hl h hk qn qb qc qr => tSs.of X (pss_cons ps_pass (pssC X)) (hr C F H σs es σ kn ω D hK hl h hk qn qb qc qr)
/-- an expression for what it does -/
theorem lb_expr {f : (τ → P → Option Ω) → Option Ω} {fr : P → (J → Option Ω) → Option Ω} (he : LX X env e S e' f) (hr : ∀ p, LB X SR envR kr bk ct (e' p) rest envJ (fr p)) (hs : swapsWith e none pos.line X.env = pure false := by rfl) :
    LB X SR envR kr bk ct env (.Expr e pos :: rest) envJ (fun kn => f fun _ p => fr p kn) :=
  fun C F H σs es σ kn ω D hK hl h hk qn qb qc qr => tSs.of X (pss_cons (ps_expr (peC X) hs) (pssC X)) (he C F H σs es σ _ ω _ hK hl h hk fun x p v F' H' hk' h' =>
    hr p C F' H' σs es σ kn ω D hK hl h'.pop hk' qn qb qc qr)
/-- a for; T: what it carries -/
theorem lb_for {T : Type} {envT : T → Env} {envX : T → α → Env} {f : (List α → P → Option Ω) → Option Ω} {fb : α → T → (T → Option Ω) → (T → Option Ω) → (T → Option Ω) → Option Ω} {fr : T → (J → Option Ω) → Option Ω}
    (hp : PassesOwn (model X.prog X.w) X.A X.env X.xe) (hc : X.calm = true) (hi : LI X env tg iter Sa e' f) (t0 : P → T) (h0 : ∀ p, Sub (e' p) (envT (t0 p))) (hg : ∀ t, LG X ix (envT t) tg Sa (envX t))
    (hb : ∀ x t kc kb, LB X SR envR kr ⟨T, envT, kb⟩ ⟨T, envT, kc⟩ (envX t x) sts envT (fun kn => fb x t kn kc kb)) (hr : ∀ t, LB X SR envR kr bk ct (envT t) rest envJ (fr t)) (hs : ∀ x, foldedSetIterable iter X.env x = pure x := by intro _; rfl) :
    LB X SR envR kr bk ct env (.For tg iter sts [] pos :: rest) envJ (fun kn => f fun xs p => forO xs (t0 p) (fun x t kc => fb x t kc kc fun t' => fr t' kn) fun t' => fr t' kn) :=
  fun C F H σs es σ kn ω D hK hl h hk qn qb qc qr => tSs.of X (pss_cons (ps_for hp hc (piC X) (pgC X) (pssC X) hs) (pssC X)) (hi C F H σs es σ _ ω _ hK hl h hk fun xs p Jt F' H' σx ex hk' h' hy => by
    have out : ∀ t F2 H2 σ2, fr t kn = some ω → ER C F2 H2 (σx ++ (σs ++ σ2)) (ex ++ (es ++ envT t)) → tSs X rest D σ2 H2 := fun t F2 H2 σ2 hk2 h2 =>
      hr t C F2 H2 σs es σ2 kn ω D hK hl (h2.popN hy.len) hk2 qn qb qc qr
    refine ⟨fun i m σ2 H2 => m = xs.length - i ∧ i ≤ xs.length ∧ ∃ t F2, ER C F2 H2 (σx ++ (σs ++ σ2)) (ex ++ (es ++ envT t)) ∧ forO (xs.drop i) t (fun x t kc => fb x t kc kc fun t' => fr t' kn) (fun t' => fr t' kn) = some ω,
      ⟨xs.length, by simp, Nat.zero_le _, t0 p, F', h'.sub (((h0 p).pre es).pre ex), by simpa using hk'⟩, ?_⟩
    rintro i m σ2 H2 ⟨rfl, hi, t, F2, h2, hk2⟩
    obtain ⟨y1, y2⟩ := hy.go i F2 H2 [] (σs ++ σ2) [] (es ++ envT t) rfl h2
    by_cases hlt : i < xs.length
    · have ex1 : xs[i]? = some xs[i] := List.getElem?_eq_getElem hlt
      obtain ⟨g1, g2⟩ := y1 _ ex1
      have ed : xs.drop i = xs[i] :: xs.drop (i + 1) := List.drop_eq_getElem_cons hlt
      rw [ed] at hk2
      refine .inr ⟨g1, fun σ3 H3 => ∃ t F3, ER C F3 H3 (σx ++ (σs ++ σ3)) (ex ++ (es ++ envT t)) ∧ forO (xs.drop (i + 1)) t (fun x t kc => fb x t kc kc fun t' => fr t' kn) (fun t' => fr t' kn) = some ω,
        fun σ3 H3 ⟨t3, F3, h3, hk3⟩ => ⟨xs.length - (i + 1), by omega, rfl, hlt, t3, F3, h3, hk3⟩, fun v H3 hv => ?_⟩
      obtain ⟨F3, h3⟩ := g2 v H3 hv
      refine hg t C F3 H3 (σx ++ σs) (ex ++ es) σ2 v xs[i] _ hK (by simp [hl, hy.len]) (by simpa [List.append_assoc] using h3) fun σ4 _ h4 => ?_
      refine hb xs[i] t (fun s' => forO (xs.drop (i + 1)) s' (fun x t kc => fb x t kc kc fun t' => fr t' kn) fun t' => fr t' kn) (fun t' => fr t' kn) C F3 H3 (σx ++ σs) (ex ++ es) σ4 _ ω _ hK (by simp [hl, hy.len]) h4 hk2 ?_ ?_ ?_ ?_
      · intro t5 F5 H5 σ5 hk5 h5; exact ⟨t5, F5, by simpa [List.append_assoc] using h5, hk5⟩
      · intro t5 F5 H5 σ5 hk5 h5; exact out t5 F5 H5 σ5 hk5 (by simpa [List.append_assoc] using h5)
      · intro t5 F5 H5 σ5 hk5 h5; exact ⟨t5, F5, by simpa [List.append_assoc] using h5, hk5⟩
      · intro a5 i5 v5 F5 H5 σ5 hk5 h5
        refine qr a5 i5 v5 F5 H5 σ5 hk5 ?_
        have h6 : ER C F5 H5 (σx ++ (some v5 :: (σs ++ σ5))) (ex ++ (.st none R SR a5 :: (es ++ envR i5))) := by
          have z : ER C F5 H5 ([some v5] ++ (σx ++ (σs ++ σ5))) ([.st none R SR a5] ++ (ex ++ (es ++ envR i5))) := by simpa [List.append_assoc] using h5
          exact ER.unrot z hy.len
        exact h6.popN hy.len
    · have e : i = xs.length := by omega
      subst e
      refine .inl ⟨y2 (by simp), out t F2 H2 σ2 ?_ h2⟩
      simpa [forO] using hk2)
end
end Z

set_option Elab.async false
set_option linter.all false
set_option maxRecDepth 100000
namespace Z
open PySem PySem.Spec PyProof.Rows L2

/-! ### and, or, if-else -/
section
variable (X : Cx) {Ω : Type}
def tW (e : Expr) : TT := fun σ H Q => ∀ whole pins s, Inv X pins σ H s → wpAny (model X.prog X.w) X.A (isTrue e X.env whole) (TP X pins σ Q) X.xe s
theorem pwC {e : Expr} : PW X e (tW X e) := ⟨fun whole pins s σ H Q I h => h whole pins s I⟩
theorem tW.of {e : Expr} {t : TT} {σ : L2.St} {H : Hp} {Q : Bool → Hp → Prop} (h : PW X e t) (q : t σ H Q) : tW X e σ H Q := fun whole pins s I => h.run whole pins s σ H Q I q
def LW (env : Env) (e : Expr) {P : Type} (env' : P → Env) (f : (Bool → P → Option Ω) → Option Ω) : Prop :=
  ∀ (C : Ck) (F H : Hp) (σs : List (Option V)) (es : Env) (σ : List (Option V)) (k : Bool → P → Option Ω) (ω : Ω) (Q : Bool → Hp → Prop), C.K = X.K → σs.length = es.length → ER C F H (σs ++ σ) (es ++ env) → f k = some ω →
    (∀ a p F' H', k a p = some ω → ER C F' H' (σs ++ σ) (es ++ env' p) → Q a H') → tW X e σ H Q
end
section
variable {X : Cx} {Ω : Type} {env : Env} {nm : Str} {pos : Pos} {a b c e : Expr} {xs rest : List Expr} {P P1 P2 P3 A : Type} {τ τ1 τ2 α β : Type} {S : Stor τ} {S1 : Stor τ1} {S2 : Stor τ2} {E : Enc τ} {E1 : Enc τ1} {E2 : Enc τ2}
  {G : Env → Prop} {e' : P → Env} {e1 : P1 → Env} {e2 : P1 → P2 → Env} {e3 : P1 → P3 → Env}
theorem lt_w {f : (Bool → P → Option Ω) → Option Ω} (h : LW X env e e' f) : LT X env e e' f :=
  fun C F H σs es σ k ω Q hK hl hr hk q => tT.of X (pwC X).pt (h C F H σs es σ k ω Q hK hl hr hk q)
theorem lw_and1 {f : (Bool → P → Option Ω) → Option Ω} (h : LT X env a e' f) : LW X env (.BoolOp .And [a] pos) e' f :=
  fun C F H σs es σ k ω Q hK hl hr hk q => tW.of X (pw_and1 (ptC X)) (h C F H σs es σ k ω Q hK hl hr hk q)
theorem lw_or1 {f : (Bool → P → Option Ω) → Option Ω} (h : LT X env a e' f) : LW X env (.BoolOp .Or [a] pos) e' f :=
  fun C F H σs es σ k ω Q hK hl hr hk q => tW.of X (pw_or1 (ptC X)) (h C F H σs es σ k ω Q hK hl hr hk q)
theorem lw_and {fa : (Bool → P1 → Option Ω) → Option Ω} {fb : P1 → (Bool → P2 → Option Ω) → Option Ω} (ha : LT X env a e1 fa) (hb : ∀ p1, LW X (e1 p1) (.BoolOp .And (b :: rest) pos) (e2 p1) (fb p1)) (hs : ∀ p1 p2, Sub (e2 p1 p2) (e1 p1)) :
    LW X env (.BoolOp .And (a :: b :: rest) pos) e1 (fun k => fa fun x p1 => if x = true then fb p1 fun y _ => k y p1 else k false p1) :=
  fun C F H σs es σ k ω Q hK hl hr hk q => tW.of X (pw_and (ptC X) (pwC X)) (ha C F H σs es σ _ ω _ hK hl hr hk fun x p1 F' H' hk' h' => by
    cases x with
    | true => rw [if_pos rfl] at hk' ⊢; exact hb p1 C F' H' σs es σ _ ω Q hK hl h' hk' fun y p2 F2 H2 hk2 h2 => q y p1 F2 H2 hk2 (h2.subF (hs p1 p2))
    | false => rw [if_neg Bool.false_ne_true] at hk' ⊢; exact q false p1 F' H' hk' h')
theorem lw_or {fa : (Bool → P1 → Option Ω) → Option Ω} {fb : P1 → (Bool → P2 → Option Ω) → Option Ω} (ha : LT X env a e1 fa) (hb : ∀ p1, LW X (e1 p1) (.BoolOp .Or (b :: rest) pos) (e2 p1) (fb p1)) (hs : ∀ p1 p2, Sub (e2 p1 p2) (e1 p1)) :
    LW X env (.BoolOp .Or (a :: b :: rest) pos) e1 (fun k => fa fun x p1 => if x = true then k true p1 else fb p1 fun y _ => k y p1) :=
  fun C F H σs es σ k ω Q hK hl hr hk q => tW.of X (pw_or (ptC X) (pwC X)) (ha C F H σs es σ _ ω _ hK hl hr hk fun x p1 F' H' hk' h' => by
    cases x with
    | true => rw [if_pos rfl] at hk' ⊢; exact q true p1 F' H' hk' h'
    | false => rw [if_neg Bool.false_ne_true] at hk' ⊢; exact hb p1 C F' H' σs es σ _ ω Q hK hl h' hk' fun y p2 F2 H2 hk2 h2 => q y p1 F2 H2 hk2 (h2.subF (hs p1 p2)))
/-- as values -/
theorem lx_one {op : BoolOp} {f : (Bool → P → Option Ω) → Option Ω} (h : LX X env a (it eB) e' f) : LX X env (.BoolOp op [a] pos) (it eB) e' f :=
  fun C F H σs es σ k ω Q hK hl hr hk q => tE.of X (pe_one (peC X)) (h C F H σs es σ k ω Q hK hl hr hk q)
theorem ER.topB {C : Ck} {F H : Hp} {v : V} {x : Bool} {σ : List (Option V)} {env : Env} (h : ER C F H (some v :: σ) (.st none Bool (it eB) x :: env)) : v = .bl x := by
  obtain ⟨v', fp, e1, r⟩ := h.look (i := 0) rfl
  simp at e1; subst e1
  obtain ⟨_, r⟩ := r
  cases r; rfl
theorem lx_and {fa : (Bool → P1 → Option Ω) → Option Ω} {fb : P1 → (Bool → P2 → Option Ω) → Option Ω} (ha : LX X env a (it eB) e1 fa) (hb : ∀ p1, LX X (e1 p1) (.BoolOp .And (b :: rest) pos) (it eB) (e2 p1) (fb p1)) (hs : ∀ p1 p2, Sub (e2 p1 p2) (e1 p1)) :
    LX X env (.BoolOp .And (a :: b :: rest) pos) (it eB) e1 (fun k => fa fun x p1 => if x = true then fb p1 fun y _ => k y p1 else k false p1) :=
  fun C F H σs es σ k ω Q hK hl hr hk q => tE.of X (pe_and (peC X) (peC X)) (ha C F H σs es σ _ ω _ hK hl hr hk fun x p1 v F' H' hk' h' => by
    refine ⟨x, h'.topB, ?_⟩
    cases x with
    | true => rw [if_pos rfl] at hk' ⊢; exact hb p1 C F' H' σs es σ _ ω Q hK hl h'.pop hk' fun y p2 u F2 H2 hk2 h2 => q y p1 u F2 H2 hk2 (ER.sub h2 (.keep ((hs p1 p2).pre es)))
    | false => rw [if_neg Bool.false_ne_true] at hk' ⊢; exact q false p1 _ F' H' hk' (h'.pop.pushSh (.bl _)))
theorem lx_or {fa : (Bool → P1 → Option Ω) → Option Ω} {fb : P1 → (Bool → P2 → Option Ω) → Option Ω} (ha : LX X env a (it eB) e1 fa) (hb : ∀ p1, LX X (e1 p1) (.BoolOp .Or (b :: rest) pos) (it eB) (e2 p1) (fb p1)) (hs : ∀ p1 p2, Sub (e2 p1 p2) (e1 p1)) :
    LX X env (.BoolOp .Or (a :: b :: rest) pos) (it eB) e1 (fun k => fa fun x p1 => if x = true then k true p1 else fb p1 fun y _ => k y p1) :=
  fun C F H σs es σ k ω Q hK hl hr hk q => tE.of X (pe_or (peC X) (peC X)) (ha C F H σs es σ _ ω _ hK hl hr hk fun x p1 v F' H' hk' h' => by
    refine ⟨x, h'.topB, ?_⟩
    cases x with
    | true => rw [if_pos rfl] at hk' ⊢; exact q true p1 _ F' H' hk' (h'.pop.pushSh (.bl _))
    | false => rw [if_neg Bool.false_ne_true] at hk' ⊢; exact hb p1 C F' H' σs es σ _ ω Q hK hl h'.pop hk' fun y p2 u F2 H2 hk2 h2 => q y p1 u F2 H2 hk2 (ER.sub h2 (.keep ((hs p1 p2).pre es))))
theorem lx_not {f : (Bool → P → Option Ω) → Option Ω} (h : LX X env a (it eB) e' f) : LX X env (.UnaryOp .Not a pos) (it eB) e' (fun k => f fun x p => k (!x) p) :=
  fun C F H σs es σ k ω Q hK hl hr hk q => tE.of X (pe_not (peC X)) (h C F H σs es σ _ ω _ hK hl hr hk fun x p v F' H' hk' h' => ⟨x, h'.topB, q _ p _ F' H' hk' (h'.pop.pushSh (.bl _))⟩)
theorem lx_if {fc : (Bool → P1 → Option Ω) → Option Ω} {fa : P1 → (τ → P2 → Option Ω) → Option Ω} {fb : P1 → (τ → P3 → Option Ω) → Option Ω} (hc : LT X env c e1 fc) (ha : ∀ p1, LX X (e1 p1) a S (e2 p1) (fa p1)) (hb : ∀ p1, LX X (e1 p1) b S (e3 p1) (fb p1))
    (hs : ∀ p1 p2, Sub (e2 p1 p2) (e1 p1)) (hs3 : ∀ p1 p3, Sub (e3 p1 p3) (e1 p1)) :
    LX X env (.IfExp c a b pos) S e1 (fun k => fc fun x p1 => if x = true then fa p1 fun y _ => k y p1 else fb p1 fun y _ => k y p1) :=
  fun C F H σs es σ k ω Q hK hl hr hk q => tE.of X (pe_ifExp (ptC X) (peC X) (peC X)) (hc C F H σs es σ _ ω _ hK hl hr hk fun x p1 F' H' hk' h' => by
    cases x with
    | true => rw [if_pos rfl] at hk' ⊢; exact ha p1 C F' H' σs es σ _ ω Q hK hl h' hk' fun y p2 u F2 H2 hk2 h2 => q y p1 u F2 H2 hk2 (ER.sub h2 (.keep ((hs p1 p2).pre es)))
    | false => rw [if_neg Bool.false_ne_true] at hk' ⊢; exact hb p1 C F' H' σs es σ _ ω Q hK hl h' hk' fun y p2 u F2 H2 hk2 h2 => q y p1 u F2 H2 hk2 (ER.sub h2 (.keep ((hs3 p1 p2).pre es))))
end

/-! ### while; stores into own lists -/
section
variable {C : Ck} {F F' H H' : Hp} {σ : List (Option V)} {env : Env} {o : Option V} {τ τ0 : Type} {S : Stor τ} {S0 : Stor τ0} {x : τ} {y : τ0} {v : V} {w : Option V} {i : Nat}
/-- the stack's top goes into the objects of slot i -/
theorem ER.absorb (h : ER C F H (o :: σ) (.st none τ0 S0 y :: env)) (e : env[i]? = some (.st w τ S x)) : ∃ v fp v0 fq, σ[i]? = some (some v) ∧ o = some v0 ∧ S.rel C.K F H fp v x ∧ S0.rel C.K F H fq v0 y ∧ (fp ++ fq).Nodup ∧ (∀ a ∈ fp ++ fq, C.B a = none ∧ F a = none ∧ H a ≠ none) ∧
    ∀ (τ' : Type) (S' : Stor τ') (x' : τ') (H' : Hp) (fp' : List Addr), (∀ a, a ∉ fp ++ fq → H a ≠ none → H' a = H a) → (∀ a, H a ≠ none → H' a ≠ none) → S'.rel C.K F H' fp' v x' → fp'.Nodup → (∀ a ∈ fp', H' a ≠ none ∧ (a ∈ fp ++ fq ∨ H a = none)) → ER C F H' σ (env.set i (.st w τ' S' x')) := by
  obtain ⟨fp, q⟩ := h.sl
  obtain ⟨hi, _⟩ := List.getElem?_eq_some_iff.mp e
  obtain ⟨v, e1, r, k⟩ := q.ok (i + 1) _ (by simpa using e)
  obtain ⟨v0, e0, r0, k0⟩ := q.ok 0 _ rfl
  have e1' : σ[i]? = some (some v) := by
    simp at e1
    cases z : σ[i]? with
    | none => rw [z] at e1; cases e1
    | some o => rw [z] at e1; exact congrArg some e1
  have e0' : o = some v0 := by simpa using e0
  have hi1 : i + 1 < (Slot.st none τ0 S0 y :: env).length := by simpa using hi
  have h00 : 0 < (Slot.st none τ0 S0 y :: env).length := by simp
  have ownu : ∀ a ∈ fp (i + 1) ++ fp 0, C.B a = none ∧ F a = none ∧ H a ≠ none := fun a m => by
    rcases List.mem_append.mp m with m | m
    · exact q.own (i + 1) hi1 a m
    · exact q.own 0 h00 a m
  have ndu : (fp (i + 1) ++ fp 0).Nodup := by
    rw [List.nodup_append]
    refine ⟨q.nd (i + 1) hi1, q.nd 0 h00, fun a ha b hb z => ?_⟩
    subst z
    have := q.sep (i + 1) 0 hi1 h00 a ha hb
    omega
  refine ⟨v, fp (i + 1), v0, fp 0, e1', e0', r, r0, ndu, ownu, fun τ' S' x' H' fp' hk hs r' nd' sub => ?_⟩
  have hp := h.pop
  have bne : ∀ a, C.B a ≠ none → a ∉ fp (i + 1) ++ fp 0 := fun a m z => m (ownu a z).1
  have notu : ∀ j, j < env.length → j ≠ i → ∀ a ∈ fp (j + 1), a ∉ fp (i + 1) ++ fp 0 := fun j hj ne a ha z => by
    have hj1 : j + 1 < (Slot.st none τ0 S0 y :: env).length := by simpa using hj
    rcases List.mem_append.mp z with z | z
    · have := q.sep (j + 1) (i + 1) hj1 hi1 a ha z; omega
    · have := q.sep (j + 1) 0 hj1 h00 a ha z; omega
  refine ⟨fun a o m => ?_, fun a o m => ?_, h.gr, fun a m => hs a (h.up a m), by simp [hp.len], fun j => if j = i then fp' else fp (j + 1), fun j s' ej => ?_, fun j hj a ha => ?_, fun j l hj hl a ha hb => ?_, fun j hj => ?_⟩
  · have m' : C.B a ≠ none := by rw [m]; exact fun z => by cases z
    rw [hk a (bne a m') (same_some h.sB m')]; exact h.sB a o m
  · have m' : F a ≠ none := by rw [m]; exact fun z => by cases z
    rw [hk a (fun z => m' (ownu a z).2.1) (same_some h.sF m')]; exact h.sF a o m
  · by_cases z : j = i
    · subst z
      rw [List.getElem?_set_self hi] at ej
      cases ej
      refine ⟨v, by rw [e1']; rfl, ?_, ?_⟩
      · simpa using r'
      · simp only [if_pos]
        cases w with
        | none =>
          intro a ha
          rcases (sub a ha).2 with m | m
          · rcases List.mem_append.mp m with m | m
            · exact k a m
            · exact k0 a m
          · exact h.hnone m
        | some w0 =>
          refine ⟨k.1, fun a ha => ?_⟩
          rcases (sub a ha).2 with m | m
          · rcases List.mem_append.mp m with m | m
            · exact k.2 a m
            · exact .inl (k0 a m)
          · exact .inl (h.hnone m)
    · rw [List.getElem?_set_ne (fun y => z y.symm)] at ej
      have hj : j < env.length := (List.getElem?_eq_some_iff.mp ej).1
      simp only [if_neg z]
      have := q.ok (j + 1) s' (by simpa using ej)
      simp only [List.getElem?_cons_succ] at this
      refine this.go (fun _ _ y => y) (fun a m => hk a (bne a m) (same_some h.sB m)) fun a ha => ?_
      exact hk a (notu j hj z a ha) (q.own (j + 1) (by simpa using hj) a ha).2.2
  · have hj' : j < env.length := by simpa using hj
    by_cases z : j = i
    · subst z
      simp only [if_pos] at ha
      obtain ⟨m1, m⟩ := sub a ha
      rcases m with m | m
      · exact ⟨(ownu a m).1, (ownu a m).2.1, m1⟩
      · exact ⟨h.bnone m, h.fnone m, m1⟩
    · simp only [if_neg z] at ha
      obtain ⟨b, f, c⟩ := q.own (j + 1) (by simpa using hj') a ha
      exact ⟨b, f, hs a c⟩
  · have hj' : j < env.length := by simpa using hj
    have hl' : l < env.length := by simpa using hl
    by_cases zj : j = i
    · by_cases zl : l = i
      · rw [zj, zl]
      · simp only [if_pos zj] at ha
        simp only [if_neg zl] at hb
        rcases (sub a ha).2 with m | m
        · exact absurd m (notu l hl' zl a hb)
        · exact absurd m (q.own (l + 1) (by simpa using hl') a hb).2.2
    · simp only [if_neg zj] at ha
      by_cases zl : l = i
      · simp only [if_pos zl] at hb
        rcases (sub a hb).2 with m | m
        · exact absurd m (notu j hj' zj a ha)
        · exact absurd m (q.own (j + 1) (by simpa using hj') a ha).2.2
      · simp only [if_neg zl] at hb
        have := q.sep (j + 1) (l + 1) (by simpa using hj') (by simpa using hl') a ha hb
        omega
  · have hj' : j < env.length := by simpa using hj
    by_cases z : j = i
    · simp only [if_pos z]; exact nd'
    · simp only [if_neg z]; exact q.nd (j + 1) (by simpa using hj')
theorem RelAll.app {α : Type} {R : List Addr → V → α → Prop} : ∀ {fp : List Addr} {vs : List V} {xs : List α} {fq : List Addr} {v : V} {x : α}, RelAll R fp vs xs → R fq v x → RelAll R (fp ++ fq) (vs ++ [v]) (xs ++ [x])
  | _, _, _, fq, v, x, .nil, h => by simpa using RelAll.cons h .nil
  | _, _, _, fq, v, x, .cons h r, q => by
    rw [List.append_assoc]
    exact .cons h (r.app q)
theorem RelAll.length {α : Type} {R : List Addr → V → α → Prop} : ∀ {fp : List Addr} {vs : List V} {xs : List α}, RelAll R fp vs xs → vs.length = xs.length
  | _, _, _, .nil => rfl
  | _, _, _, .cons _ r => congrArg (· + 1) r.length
end
def SZ : Nat := 16777216
theorem SZ_eq : sizeLine = SZ := sizeLine_eq
section
variable {X : Cx} {R I Ω : Type} {SR : Stor R} {envR : I → Env} {kr : R → I → Option Ω} {bk ct : Lp Ω} {env : Env} {nm : Str} {pos : Pos} {c e tg iter : Expr} {sts sa sb rest : List Stmt} {P P1 P2 A : Type} {τ α : Type} {S : Stor τ} {Sa : Stor α} {e' : P → Env} {ix : List Nat} {J J1 : Type} {envJ : J → Env} {env1 : J1 → Env}
/-- a while, with fuel n -/
theorem lb_while {T Pt : Type} {envT : T → Env} {eT : T → Pt → Env} {fc : T → (Bool → Pt → Option Ω) → Option Ω} {fb : T → Pt → (T → Option Ω) → (T → Option Ω) → (T → Option Ω) → Option Ω} {fr : T → (J → Option Ω) → Option Ω} (n : Nat)
    (hp : PassesOwn (model X.prog X.w) X.A X.env X.xe) (t0 : T) (h0 : Sub env (envT t0)) (hc : ∀ t, LT X (envT t) c (eT t) (fc t)) (hx : ∀ t p, Sub (eT t p) (envT t))
    (hb : ∀ t p kc kb, LB X SR envR kr ⟨T, envT, kb⟩ ⟨T, envT, kc⟩ (eT t p) sts envT (fun kn => fb t p kn kc kb)) (hr : ∀ t, LB X SR envR kr bk ct (envT t) rest envJ (fr t)) :
    LB X SR envR kr bk ct env (.While c sts [] pos :: rest) envJ (fun kn => whileO n t0 fun t kc => fc t fun b p => if b = true then fb t p kc kc fun t' => fr t' kn else fr t kn) :=
  fun C F H σs es σ kn ω D hK hl h hk qn qb qc qr => tSs.of X (pss_cons (ps_while hp (ptC X) (pssC X)) (pssC X)) (by
    have out : ∀ t F2 H2 σ2, fr t kn = some ω → ER C F2 H2 (σs ++ σ2) (es ++ envT t) → tSs X rest D σ2 H2 := fun t F2 H2 σ2 hk2 h2 =>
      hr t C F2 H2 σs es σ2 kn ω D hK hl h2 hk2 qn qb qc qr
    refine ⟨fun m σ2 H2 => ∃ t F2, ER C F2 H2 (σs ++ σ2) (es ++ envT t) ∧ whileO m t (fun t kc => fc t fun b p => if b = true then fb t p kc kc fun t' => fr t' kn else fr t kn) = some ω, ⟨n, t0, F, h.subF h0, hk⟩, ?_⟩
    rintro m σ2 H2 ⟨t, F2, h2, hk2⟩
    cases m with
    | zero => cases hk2
    | succ m =>
      refine hc t C F2 H2 σs es σ2 _ ω _ hK hl h2 hk2 fun b p F3 H3 hk3 h3 => ?_
      cases b with
      | true =>
        rw [if_pos rfl] at hk3 ⊢
        refine ⟨fun σ4 H4 => ∃ t F4, ER C F4 H4 (σs ++ σ4) (es ++ envT t) ∧ whileO m t (fun t kc => fc t fun b p => if b = true then fb t p kc kc fun t' => fr t' kn else fr t kn) = some ω, fun σ4 H4 ⟨t4, F4, h4, hk4⟩ => ⟨m, Nat.lt_succ_self m, t4, F4, h4, hk4⟩, ?_⟩
        refine hb t p (fun s' => whileO m s' fun t kc => fc t fun b p => if b = true then fb t p kc kc fun t' => fr t' kn else fr t kn) (fun t' => fr t' kn) C F3 H3 σs es σ2 _ ω _ hK hl h3 hk3 ?_ ?_ ?_ ?_
        · intro t5 F5 H5 σ5 hk5 h5; exact ⟨t5, F5, h5, hk5⟩
        · intro t5 F5 H5 σ5 hk5 h5; exact out t5 F5 H5 σ5 hk5 h5
        · intro t5 F5 H5 σ5 hk5 h5; exact ⟨t5, F5, h5, hk5⟩
        · intro a5 i5 v5 F5 H5 σ5 hk5 h5; exact qr a5 i5 v5 F5 H5 σ5 hk5 h5
      | false =>
        rw [if_neg Bool.false_ne_true] at hk3 ⊢
        exact out t F3 H3 σ2 hk3 (h3.subF (hx t p)))
/-- x.append(e), x a list of one's own -/
theorem lb_app {f : (α → P → Option Ω) → Option Ω} {fr : α → P → (J → Option Ω) → Option Ω} {w : Option V} {x0 : List α} {xs : P → List α} {ap cp np : Pos} (i : Nat) (h0 : env[i]? = some (.st w (List α) (ls Sa) x0))
    (he : LX X env e Sa e' f) (h1 : ∀ p, (e' p)[i]? = some (.st w (List α) (ls Sa) (xs p))) (hr : ∀ y p, LB X SR envR kr bk ct ((e' p).set i (.st w (List α) (ls Sa) (xs p ++ [y]))) rest envJ (fr y p))
    (hN : X.N[i]? = some nm := by rfl) (hv : Vis X.env.scope nm := by first | exact Or.inl rfl | exact Or.inr (Or.inl rfl) | exact Or.inr (Or.inr rfl))
    (hd : (nm == ("__debug__" : Str)) = false := by decide) (hcd : (nm == ("__classdict__" : Str)) = false := by decide)
    (hbase : attributeBase (.Name nm np) "append" X.env (eval (.Name nm np) X.env) = eval (.Name nm np) X.env := by rfl)
    (hfew : ((backTo cp (starEach [e] X.env)).all (fun x => !x.1) && (backToKw cp (keywordEach [] X.env)).all (fun x => x.1.isSome) && decide ([e].length + ([] : List Keyword).length + (if ([] : List Keyword).isEmpty then 0 else 1) < 30)) = true := by rfl)
    (hline : (ap.endLine == cp.line) = true := by rfl) (hse : starEach [e] X.env = (false, eval e X.env) :: starEach [] X.env := by rfl) (hplain : (backTo cp (starEach [] X.env)).any (·.1) = false := by rfl)
    (hsw : swapsWith (.Call (.Attribute (.Name nm np) "append" ap) [e] [] cp) none pos.line X.env = pure false := by rfl) :
    LB X SR envR kr bk ct env (.Expr (.Call (.Attribute (.Name nm np) "append" ap) [e] [] cp) pos :: rest) envJ (fun kn => f fun y p => ck (decide ((xs p).length < SZ)) (fr y p kn)) :=
  fun C F H σs es σ kn ω D hK hl h hk qn qb qc qr => tSs.of X (pss_cons (ps_expr (pe_bm PySem.F.plainAttrs_list PySem.F.slot_list_append PySem.F.type_list_append mt_append (pe_var hN hv hd hcd) (pa_cons (peC X) pa_nil hse) hbase hfew hline hse hplain) hsw) (pssC X)) (by
    obtain ⟨l, fp, e1, r⟩ := h.lookF hl h0
    obtain ⟨q0, vs0, fps0, rfl, hq0, _, _⟩ := r
    refine ⟨_, e1, .inl ⟨rfl, vs0, SqL.of hq0⟩, he C F H σs es σ _ ω _ hK hl h hk fun y p v F' H' hk' h' => ?_⟩
    obtain ⟨hc, hk'⟩ := ck_some hk'
    obtain ⟨v', fp', v0, fq, e2, e3, r1, r2, nd, ow, fin⟩ := h'.absorb (i := es.length + i) (by rw [at_app _ rfl]; exact h1 p)
    rw [at_app _ hl, e1] at e2
    cases e2; cases e3
    obtain ⟨q1, vs, fps, e4, hq, ra, rfl⟩ := r1
    cases e4
    have hlen := ra.length
    have hc' := of_decide_eq_true hc
    refine ⟨_, vs, _, rfl, rfl, hq, by rw [SZ_eq]; omega, ?_⟩
    have fin' := fin (List α) (ls Sa) (xs p ++ [y]) (upd H' q0 (.lst (vs ++ [v]))) (q0 :: (fps ++ fq)) (fun a na _ => upd_ne fun z => na (by rw [z]; simp)) (fun a m => ?_) ?_ (by simpa using nd) (fun a m => ?_)
    · rw [List.set_append_right _ _ (Nat.le_add_right _ _), Nat.add_sub_cancel_left] at fin'
      exact hr y p C F' _ σs es σ kn ω D hK hl fin' hk' qn qb qc qr
    · by_cases z : a = q0
      · subst z; rw [upd_same]; exact fun z => by cases z
      · rw [upd_ne z]; exact m
    · have nm : q0 ∉ fps ++ fq := by
        have : (q0 :: (fps ++ fq)).Nodup := by simpa using nd
        exact (List.nodup_cons.mp this).1
      refine ⟨q0, vs ++ [v], fps ++ fq, rfl, upd_same, RelAll.imp (fun fr' v' x' s q => Sa.frame (fun a m => upd_ne fun z => nm (z ▸ s a m)) q) (ra.app r2), rfl⟩
    · refine ⟨?_, .inl (by simpa using m)⟩
      by_cases z : a = q0
      · subst z; rw [upd_same]; exact fun z => by cases z
      · rw [upd_ne z]; exact (ow a (by simpa using m)).2.2)
/-- x[j] = e, x a list of one's own whose items are shared -/
theorem lb_setix {E : Enc α} {f : (α → P1 → Option Ω) → Option Ω} {f2 : α → P1 → (Int → P2 → Option Ω) → Option Ω} {fr : α → P1 → Int → P2 → List α → (J → Option Ω) → Option Ω} {e1 : P1 → Env} {e2 : α → P1 → P2 → Env} {w : Option V} {x1 : P1 → List α} {xs : α → P1 → P2 → List α} {ie : Expr} {np sp : Pos} (i : Nat)
    (he : LX X env e (it E) e1 f) (h1 : ∀ p, (e1 p)[i]? = some (.st w (List α) (ls (it E)) (x1 p))) (hi : ∀ y p, LX X (e1 p) ie (it eI) (e2 y p) (f2 y p)) (h2 : ∀ y p p2, (e2 y p p2)[i]? = some (.st w (List α) (ls (it E)) (xs y p p2)))
    (hr : ∀ y p j p2 zs, LB X SR envR kr bk ct ((e2 y p p2).set i (.st w (List α) (ls (it E)) zs)) rest envJ (fr y p j p2 zs))
    (hN : X.N[i]? = some nm := by rfl) (hv : Vis X.env.scope nm := by first | exact Or.inl rfl | exact Or.inr (Or.inl rfl) | exact Or.inr (Or.inr rfl))
    (hd : (nm == ("__debug__" : Str)) = false := by decide) (hcd : (nm == ("__classdict__" : Str)) = false := by decide)
    (ha : ∀ v, assign (.Subscript (.Name nm np) ie sp) X.env v = (do
      let ov ← holding [v] (eval (.Name nm np) X.env)
      let iv ← holding [v, ov] (eval ie X.env)
      standAt sp
      holding [v, ov, iv] (setItem ov iv v)
      release [v, ov, iv] []) := by intro _; rfl)
    (hs : swapsWithSole [.Subscript (.Name nm np) ie sp] e pos.line X.env = pure false := by rfl) (hw : swappedStores [.Subscript (.Name nm np) ie sp] e X.env = pure none := by rfl) (ha1 : (assignEach [.Subscript (.Name nm np) ie sp] X.env).map (·.2) = [assign (.Subscript (.Name nm np) ie sp) X.env] := by rfl) :
    LB X SR envR kr bk ct env (.Assign [.Subscript (.Name nm np) ie sp] e pos :: rest) envJ (fun kn => f fun y p => f2 y p fun j p2 => (ixN (xs y p p2).length j).bind fun n => fr y p j p2 ((xs y p p2).set n y) kn) :=
  fun C F H σs es σ kn ω D hK hl h hk qn qb qc qr => tSs.of X (pss_cons (ps_asg (peC X) (pg_sub (pe_var hN hv hd hcd) (peC X) set_list ha) hs hw ha1) (pssC X)) (he C F H σs es σ _ ω _ hK hl h hk fun y p v F' H' hk' h' => by
    obtain ⟨l, fp, e3, r⟩ := h'.pop.lookF hl (h1 p)
    refine ⟨l, e3, hi y p C F' H' (some v :: σs) (.st none α (it E) y :: es) σ _ ω _ hK (by simp [hl]) h' hk' fun j p2 u F2 H2 hk2 h3 => ?_⟩
    obtain ⟨n, hn, hk2⟩ := bind_some hk2
    have hu : u = .int j := by
      obtain ⟨v', fp, e1, r⟩ := h3.look (i := 0) rfl
      simp at e1; subst e1
      obtain ⟨_, r⟩ := r
      cases r; rfl
    subst hu
    have hv' : Rep C.K F2 v (E.enc y) := by
      obtain ⟨v', fp, e1, r⟩ := h3.look (i := 1) rfl
      simp at e1; subst e1
      exact r.2
    have h4 : ER C F2 H2 (σs ++ σ) (es ++ e2 y p p2) := h3.pop.pop
    obtain ⟨l', fp', e4, r1, nd, ow, fin⟩ := h4.mut (i := es.length + i) (by rw [at_app _ rfl]; exact h2 y p p2)
    rw [at_app _ hl, e3] at e4
    cases e4
    obtain ⟨q1, vs, fps, rfl, hq, ra, rfl⟩ := r1
    obtain ⟨rfl, rp⟩ := ra.zero
    have hlen : vs.length = (xs y p p2).length := by have := rp.length; simpa using this
    refine ⟨q1, vs, j, n, rfl, rfl, hq, by rw [hlen]; exact hn, ?_⟩
    have fin' := fin (List α) (ls (it E)) ((xs y p p2).set n y) (upd H2 q1 (.lst (vs.set n v))) [q1] (fun a na _ => upd_ne fun z => na (by rw [z]; simp)) (fun a m => ?_) ⟨q1, vs.set n v, [], rfl, upd_same, ?_, rfl⟩ (by simp) (fun a m => ?_)
    · rw [List.set_append_right _ _ (Nat.le_add_right _ _), Nat.add_sub_cancel_left] at fin'
      exact hr y p j p2 _ C F2 _ σs es σ kn ω D hK hl fin' hk2 qn qb qc qr
    · by_cases z : a = q1
      · subst z; rw [upd_same]; exact fun z => by cases z
      · rw [upd_ne z]; exact m
    · have := rp.set hv' (i := n)
      rw [← List.map_set] at this
      exact this.zero
    · simp at m; subst m
      exact ⟨by rw [upd_same]; exact (fun z => by cases z), .inl (by simp)⟩)
end
end Z

set_option Elab.async false
set_option linter.all false
set_option maxRecDepth 100000
namespace Z
open PySem PySem.Spec PyProof.Rows L2

/-! ### calls of defs -/
/-- slots that own nothing -/
inductive ShE : Env → Prop
  | nil : ShE []
  | cons {τ : Type} {S : Stor τ} {x : τ} {en : Env} : Cp S → ShE en → ShE (.st none τ S x :: en)
theorem ShE.slot : ∀ {en : Env}, ShE en → ∀ (i : Nat) (s : Slot), en[i]? = some s → ∃ (τ : Type) (S : Stor τ) (x : τ), s = Slot.st none τ S x ∧ Cp S
  | _, .nil, i, s, e => by simp at e
  | _, .cons cp r, 0, s, e => ⟨_, _, _, by simp at e; exact e.symm, cp⟩
  | _, .cons cp r, i + 1, s, e => r.slot i s (by simpa using e)
section
variable {C : Ck} {F F' H H' : Hp} {σ : List (Option V)} {env : Env} {o : Option V} {τ τ0 R : Type} {S : Stor τ} {S0 : Stor τ0} {SR : Stor R} {x : τ} {y : τ0} {v : V} {w : Option V} {i : Nat} {r : R}
theorem lt_of_get {α : Type _} {l : List α} {i : Nat} {a : α} (h : l[i]? = some a) : i < l.length := (List.getElem?_eq_some_iff.mp h).1
/-- into a def: its arguments are shared -/
theorem ER.enter {σa : List (Option V)} {ea : Env} (h : ER C F H (σa ++ σ) (ea ++ env)) (hl : σa.length = ea.length) (sh : ShE ea) : ER ⟨C.K, H, F, H, []⟩ F H σa ea := by
  obtain ⟨fp, q⟩ := h.sl
  refine ⟨fun _ _ e => e, h.sF, fun a m => .inl m, fun a m => m, hl, fun _ => [], fun j s e => ?_, fun j hj a ha => (nomatch ha), fun j l _ _ a ha => (nomatch ha), fun j _ => List.nodup_nil⟩
  have hj := lt_of_get e
  obtain ⟨τ, S, x, rfl, cp⟩ := sh.slot j s e
  obtain ⟨v, e1, r, _⟩ := q.ok j _ (by rw [List.getElem?_append_left hj]; exact e)
  rw [List.getElem?_append_left (by omega)] at e1
  have z := cp.nil r
  rw [z] at r
  exact ⟨v, e1, r, fun _ m => nomatch m⟩
def hun (F G : Hp) : Hp := fun a => match F a with
  | some o => some o
  | none => G a
theorem same_hunL : Same F (hun F F') := fun a o e => by unfold hun; rw [e]
theorem same_hunR (s : Same F H) (s' : Same F' H) : Same F' (hun F F') := fun a o e => by
  unfold hun
  cases q : F a with
  | none => exact e
  | some u =>
    have h1 := s a u q
    have h2 := s' a o e
    rw [h1] at h2
    exact h2
theorem hun_same (s : Same F H) (s' : Same F' H) : Same (hun F F') H := fun a o e => by
  unfold hun at e
  cases q : F a with
  | none => rw [q] at e; exact s' a o e
  | some u' =>
    rw [q] at e
    have e' : u' = o := Option.some.inj e
    rw [← e']
    exact s a u' q
theorem hun_some {a : Addr} (h : hun F F' a ≠ none) : F a ≠ none ∨ F' a ≠ none := by
  unfold hun at h
  cases q : F a with
  | none => rw [q] at h; exact .inr h
  | some u => exact .inl (by intro z; cases z)
theorem hun_none {a : Addr} (h : F a = none) (h' : F' a = none) : hun F F' a = none := by
  unfold hun; rw [h]; exact h'
/-- out of it -/
theorem ER.back (h : ER C F H σ env) (hc : ER ⟨C.K, H, F, H, []⟩ F' H' [some v] [.st none R SR r]) : ∃ F'', ER C F'' H' (some v :: σ) (.st none R SR r :: env) := by
  have sFH : Same F H' := fun a o e => hc.sB a o (h.sF a o e)
  have nw : ∀ a, hun F F' a ≠ none → F a ≠ none ∨ H a = none := fun a m => by
    rcases hun_some m with z | z
    · exact .inl z
    · exact hc.gr a z
  have h2 := h.grow (F' := hun F F') (H' := H') hc.sB same_hunL (hun_same sFH hc.sF) nw
  obtain ⟨fp, q⟩ := h.sl
  have q2 := q.grow h hc.sB (F' := hun F F') same_hunL nw
  obtain ⟨fq, qc⟩ := hc.sl
  obtain ⟨v', e1, rr, ne⟩ := qc.ok 0 _ rfl
  simp at e1; subst e1
  refine ⟨hun F F', h2.sB, h2.sF, h2.gr, h2.up, by simp [h2.len], _, q2.push (fq := fq 0) ⟨v, rfl, SR.monoF (same_hunR sFH hc.sF) rr, fun a m => h.hnone (ne a m)⟩ (fun a m => ?_) (qc.nd 0 (by simp)) fun j hj a ha m => ?_⟩
  · obtain ⟨b, f, c⟩ := qc.own 0 (by simp) a m
    exact ⟨h.bnone b, hun_none (h.fnone b) f, c⟩
  · exact (q.own j hj a ha).2.2 (ne a m)
/-- the promise of a def over shared arguments -/
def spP (K : Fg) {A R : Type} (sl : A → Env) (SR : Stor R) (m : A → Option R) : Sp := fun vs H Q _ => ∃ (B F : Hp) (a : A) (r : R), m a = some r ∧ (vs.map some).length = (sl a).length ∧ ER ⟨K, B, F, H, []⟩ F H (vs.map some) (sl a) ∧
  ∀ F' H' v, ER ⟨K, B, F, H, []⟩ F' H' [some v] [.st none R SR r] → Q v H'
/-- .. that changes its first argument -/
def spI (K : Fg) {A T R : Type} (ST : Stor T) (sl : A → Env) (SR : Stor R) (m : T → A → Option (R × T)) : Sp := fun vs H Q _ => ∃ (B F : Hp) (io : List Addr) (t : T) (a : A) (r : R) (t' : T) (v0 : V) (vs' : List V), vs = v0 :: vs' ∧ m t a = some (r, t') ∧ (vs'.map some).length = (sl a).length ∧
  ER ⟨K, B, F, H, io⟩ F H (vs.map some) (.st (some v0) T ST t :: sl a) ∧ ∀ F' H' v, ER ⟨K, B, F, H, io⟩ F' H' [some v, some v0] [.st none R SR r, .st (some v0) T ST t'] → Q v H'
theorem ER.head {s : Slot} (h : ER C F H (o :: σ) (s :: env)) : ER C F H [o] [s] :=
  h.perm rfl id fun j s' e => by
    cases j with
    | zero => exact .inr ⟨by simpa using e, rfl, fun l _ el _ z => by simpa using z⟩
    | succ j => simp at e
theorem ER.head2 {o2 : Option V} {s s2 : Slot} (h : ER C F H (o :: o2 :: σ) (s :: s2 :: env)) : ER C F H [o, o2] [s, s2] :=
  h.perm rfl id fun j s' e => by
    match j, e with
    | 0, e => exact .inr ⟨by simpa using e, rfl, fun l _ el _ z => by simpa using z⟩
    | 1, e => exact .inr ⟨by simpa using e, rfl, fun l _ el _ z => by simpa using z⟩
    | j + 2, e => simp at e
theorem ER.padR (h : ER C F H σ env) : ∀ n : Nat, ER C F H (σ ++ List.replicate n none) (env ++ List.replicate n .un) := fun n =>
  h.perm (by simp [h.len]) id fun j s' e => by
    by_cases z : j < env.length
    · rw [List.getElem?_append_left z] at e
      exact .inr ⟨e, by rw [List.getElem?_append_left (by rw [h.len]; exact z)]; rfl, fun l _ _ _ y => y⟩
    · rw [List.getElem?_append_right (by omega), List.getElem?_replicate] at e
      split at e
      · exact .inl (Option.some.inj e).symm
      · cases e
end

section
variable {P : Program} {w : World} {K : Fg} {mg : Str → Option Value} {base : Heap}
/-- THE RULE for a def over shared arguments: its body walked -/
theorem fnP {x qual : Str} {st : Stmt} {f : Addr} {fd : FuncData} {N ps : List Str} {k : Nat} {A R : Type} {sl : A → Env} {SR : Stor R} {m : A → Option R} (F : Fun K x qual st f fd) (S : FnScope N ps (defScope st)) (n : Nat) (hn : N.length - ps.length = n) (hl : ∀ a, (sl a).length = ps.length)
    (hb : ∀ (cdv : Value) (A' : Around) (outer : List PySem.Env) (s : Shared) (H : Hp) (E : XK), Room k (A'.deeper (envOfC qual (defScope st) s.heap.objs.size f cdv)) → ∀ a : A,
      LB (cxOf CX0 P w K mg base N qual (defScope st) f cdv A' outer s H E).nox SR (fun _ : Unit => List.replicate (ps.length + n) .un) (fun (r : R) (_ : Unit) => some r) (noLp R) (noLp R) (sl a ++ List.replicate n .un) (defBody st) (fun z : Empty => z.elim) (fun _ => m a)) :
    FnOk P w K mg base CX0 (k + 1) f fd ps (spP K sl SR m) := by
  have hlen : ∀ vs H Q E, spP K sl SR m vs H Q E → vs.length = ps.length := fun vs H Q E h => by
    obtain ⟨B, F0, a, r, _, h2, _⟩ := h
    rw [List.length_map] at h2; rw [h2, hl a]
  refine F.ok S hlen fun cdv A' outer s H vs Q E hr h => ?_
  have hlv := hlen vs H Q E h
  obtain ⟨B, F0, a, r, hm, _, her, q⟩ := h
  refine ⟨_, pssC _, ?_⟩
  have hst : L2.start N vs = vs.map some ++ List.replicate n none := by unfold L2.start; rw [hlv, hn]
  rw [hst]
  refine hb cdv A' outer s H E hr a ⟨K, B, F0, H, []⟩ F0 H [] [] _ (fun z => z.elim) r { nx := fun _ H' => Q .non H', rt := Q } rfl rfl (her.padR n) hm (fun z => z.elim) (fun z => z.elim) (fun z => z.elim) ?_
  intro a' i v F' H' σ' e h'
  cases e
  exact q F' H' v h'.head
/-- .. that changes its first argument -/
theorem fnI {x qual : Str} {st : Stmt} {f : Addr} {fd : FuncData} {N ps : List Str} {k : Nat} {A T R : Type} {ST : Stor T} {sl : A → Env} {SR : Stor R} {m : T → A → Option (R × T)} (F : Fun K x qual st f fd) (S : FnScope N ps (defScope st)) (n : Nat) (hn : N.length - ps.length = n) (hl : ∀ a, (sl a).length + 1 = ps.length)
    (hb : ∀ (cdv : Value) (A' : Around) (outer : List PySem.Env) (s : Shared) (H : Hp) (E : XK), Room k (A'.deeper (envOfC qual (defScope st) s.heap.objs.size f cdv)) → ∀ (v0 : V) (t : T) (a : A),
      LB (cxOf CX0 P w K mg base N qual (defScope st) f cdv A' outer s H E).nox SR (fun t' : T => .st (some v0) T ST t' :: List.replicate (N.length - 1) .un) (fun (r : R) (t' : T) => some (r, t')) (noLp (R × T)) (noLp (R × T)) (.st (some v0) T ST t :: (sl a ++ List.replicate n .un)) (defBody st) (fun z : Empty => z.elim) (fun _ => m t a)) :
    FnOk P w K mg base CX0 (k + 1) f fd ps (spI K ST sl SR m) := by
  have hlen : ∀ vs H Q E, spI K ST sl SR m vs H Q E → vs.length = ps.length := fun vs H Q E h => by
    obtain ⟨B, F0, io, t, a, r, t', v0, vs', rfl, _, h2, _⟩ := h
    rw [List.length_map] at h2; rw [List.length_cons, h2, hl a]
  refine F.ok S hlen fun cdv A' outer s H vs Q E hr h => ?_
  have hlv := hlen vs H Q E h
  obtain ⟨B, F0, io, t, a, r, t', v0, vs', rfl, hm, _, her, q⟩ := h
  refine ⟨_, pssC _, ?_⟩
  have hst : L2.start N (v0 :: vs') = (v0 :: vs').map some ++ List.replicate n none := by unfold L2.start; rw [hlv, hn]
  rw [hst]
  refine hb cdv A' outer s H E hr v0 t a ⟨K, B, F0, H, io⟩ F0 H [] [] _ (fun z => z.elim) (r, t') { nx := fun _ H' => Q .non H', rt := Q } rfl rfl (her.padR n) hm (fun z => z.elim) (fun z => z.elim) (fun z => z.elim) ?_
  intro a' i v F' H' σ' e h'
  cases e
  have hls : σ'.length = N.length - 1 + 1 := by have := h'.len; simpa using this
  cases σ' with
  | nil => simp at hls
  | cons o σ' =>
    have h3 : ER ⟨K, B, F0, H, io⟩ F' H' (some v :: o :: σ') (.st none R SR r :: .st (some v0) T ST t' :: List.replicate (N.length - 1) .un) := h'
    have ho : o = some v0 := by
      obtain ⟨fp, qq⟩ := h3.sl
      obtain ⟨v', e1, _, e2⟩ := qq.ok 1 _ rfl
      simp at e1
      rw [e1, e2.1]
    subst ho
    exact q F' H' v h3.head2
end
section
variable {X : Cx} {Ω : Type} {env : Env} {nm : Str} {pos np : Pos} {e : Expr} {xs : List Expr} {Pt A R T : Type} {SR : Stor R} {ST : Stor T} {e' : Pt → Env} {sl : A → Env} {k : Nat} {f : Addr} {fd : FuncData} {ps : List Str}
/-- f(..) -/
theorem lx_call {m : A → Option R} {fa : (A → Pt → Option Ω) → Option Ω} (Fn : FnOk X.prog X.w X.K X.mg X.base CX0 k f fd ps (spP X.K sl SR m)) (hr : Room k X.A) (hm : X.mg nm = some (.ref f)) (hk : PySem.W.keepIn X.K (.ref f) = true) (hb : Binds X.K fd ps []) (sh : ∀ a, ShE (sl a))
    (ha : LA X env (e :: xs) sl e' fa) (hg : Gl X nm := by rfl) (hdb : (nm == ("__debug__" : Str)) = false := by decide) (he : starEach (e :: xs) X.env = (false, eval e X.env) :: starEach xs X.env := by rfl) (hpl : (backTo pos (starEach xs X.env)).any (·.1) = false := by rfl) :
    LX X env (.Call (.Name nm np) (e :: xs) [] pos) SR e' (fun k => fa fun a p => (m a).bind fun r => k r p) :=
  fun C F H σs es σ k ω Q hK hl h hk' q => tE.of X (pe_call Fn hr hg hm hk hb .nil pass0 (paC X) hdb he hpl) (ha C F H σs es σ _ ω _ hK hl h hk' fun a p vs F' H' hk2 hlv h' => by
    obtain ⟨r, hm', hk2⟩ := bind_some hk2
    show spP X.K sl SR m (vs ++ []) H' Q _
    rw [List.append_nil, ← hK]
    exact ⟨H', F', a, r, hm', hlv, h'.enter hlv (sh a), fun F2 H2 v h2 => by
      obtain ⟨F3, h3⟩ := (h'.popN hlv).back h2
      exact q r p v F3 H2 hk2 h3⟩)
theorem lx_call0 {m : Unit → Option R} (Fn : FnOk X.prog X.w X.K X.mg X.base CX0 k f fd ps (spP X.K (fun _ : Unit => []) SR m)) (hr : Room k X.A) (hm : X.mg nm = some (.ref f)) (hk : PySem.W.keepIn X.K (.ref f) = true) (hb : Binds X.K fd ps [])
    (hg : Gl X nm := by rfl) (hdb : (nm == ("__debug__" : Str)) = false := by decide) :
    LX X env (.Call (.Name nm np) [] [] pos) SR (fun _ : Unit => env) (fun (k : R → Unit → Option Ω) => (m ()).bind fun r => k r ()) :=
  fun C F H σs es σ k ω Q hK hl h hk' q => tE.of X (pe_call0 Fn hr hg hm hk hb .nil pass0 hdb) (by
    obtain ⟨r, hm', hk2⟩ := bind_some hk'
    show spP X.K _ SR m [] H Q E0
    rw [← hK]
    refine ⟨H, F, (), r, hm', rfl, ER.enter (σa := []) (ea := []) h rfl .nil, fun F2 H2 v h2 => ?_⟩
    obtain ⟨F3, h3⟩ := h.back h2
    exact q r () v F3 H2 hk2 h3)
/-- into a def that changes the object of slot i -/
theorem ER.enterI {C : Ck} {F H : Hp} {σ : List (Option V)} {env : Env} {w : Option V} {t : T} {v0 : V} {i : Nat} {σa : List (Option V)} {ea : Env} (h : ER C F H (σa ++ σ) (ea ++ env)) (hl : σa.length = ea.length) (sh : ShE ea) (hi : env[i]? = some (.st w T ST t)) (hv : σ[i]? = some (some v0)) :
    ∃ B io, ER ⟨C.K, B, F, H, io⟩ F H (some v0 :: σa) (.st (some v0) T ST t :: ea) ∧ ∀ (R : Type) (SR : Stor R) (r : R) (t' : T) (F' H' : Hp) (v : V), ER ⟨C.K, B, F, H, io⟩ F' H' [some v, some v0] [.st none R SR r, .st (some v0) T ST t'] →
      ∃ F'', ER C F'' H' (some v :: σ) (.st none R SR r :: env.set i (.st w T ST t')) := by
  have h0 : ER C F H σ env := h.popN hl
  obtain ⟨fp, q⟩ := h0.sl
  have hil := lt_of_get hi
  obtain ⟨v', e1, rr, kk⟩ := q.ok i _ hi
  rw [hv] at e1
  simp at e1; subst e1
  have he := h.enter hl sh
  obtain ⟨fe, qe⟩ := he.sl
  refine ⟨fun a => if a ∈ fp i then none else H a, fp i, ⟨fun a o e => ?_, h0.sF, fun a m => .inl m, fun a m => m, by simp [hl], _, Fps.push (fp := fun _ => []) ⟨fun j s e => ?_, fun j hj a ha => (nomatch ha), fun j l _ _ a ha => (nomatch ha), fun j _ => List.nodup_nil⟩ (fq := fp i) ⟨v0, rfl, rr, rfl, fun a m => .inr m⟩ (fun a m => ⟨if_pos m, (q.own i hil a m).2⟩) (q.nd i hil) fun j _ a ha => (nomatch ha)⟩, ?_⟩
  · have e : (if a ∈ fp i then none else H a) = some o := e
    by_cases m : a ∈ fp i
    · rw [if_pos m] at e; cases e
    · rw [if_neg m] at e; exact e
  · obtain ⟨τ, S, x, rfl, cp⟩ := sh.slot j s e
    obtain ⟨v, e1, r, _⟩ := qe.ok j _ e
    have z := cp.nil r
    rw [z] at r
    exact ⟨v, e1, r, fun _ m => nomatch m⟩
  · intro R SR r t' F' H' v hc
    have bk : ∀ a, H a ≠ none → a ∉ fp i → H' a = H a := fun a m n => by
      cases e : H a with
      | none => exact absurd e m
      | some o => exact hc.sB a o (by show (if a ∈ fp i then none else H a) = _; rw [if_neg n]; exact e)
    have fn : ∀ a, F a ≠ none → a ∉ fp i := fun a m z => m (q.own i hil a z).2.1
    have bn : ∀ a, C.B a ≠ none → a ∉ fp i := fun a m z => m (q.own i hil a z).1
    have sFH : Same F H' := fun a o e => by
      have m : F a ≠ none := by rw [e]; exact fun z => by cases z
      rw [bk a (same_some h0.sF m) (fn a m)]; exact h0.sF a o e
    have up' : ∀ a, H a ≠ none → H' a ≠ none := fun a m => hc.up a m
    obtain ⟨fc, qc⟩ := hc.sl
    obtain ⟨v1, ev1, r1, n1⟩ := qc.ok 0 _ rfl
    obtain ⟨v2, ev2, r2, n2⟩ := qc.ok 1 _ rfl
    simp at ev1 ev2; subst ev1; subst ev2
    have l0 : 0 < ([.st none R SR r, .st (some v0) T ST t'] : Env).length := by simp
    have l1 : 1 < ([.st none R SR r, .st (some v0) T ST t'] : Env).length := by simp
    have i1 : ∀ a ∈ fc 1, H a = none ∨ a ∈ fp i := n2.2
    have sep01 : ∀ a ∈ fc 0, a ∉ fc 1 := fun a m z => by have := qc.sep 0 1 l0 l1 a m z; omega
    have fnn : ∀ a, (H a = none ∨ a ∈ fp i) → F a = none := fun a m => by
      rcases m with m | m
      · exact h0.fnone m
      · exact (q.own i hil a m).2.1
    have bnn : ∀ a, (H a = none ∨ a ∈ fp i) → C.B a = none := fun a m => by
      rcases m with m | m
      · exact h0.bnone m
      · exact (q.own i hil a m).1
    have jH : ∀ j, j < env.length → j ≠ i → ∀ a ∈ fp j, ¬ (H a = none ∨ a ∈ fp i) := fun j hj ne a ha z => by
      rcases z with z | z
      · exact (q.own j hj a ha).2.2 z
      · exact ne (q.sep j i hj hil a ha z)
    refine ⟨hun F F', fun a o e => ?_, hun_same sFH hc.sF, fun a m => ?_, fun a m => up' a (h0.up a m), by simp [h0.len], _, Fps.push (fp := fun j => if j = i then fc 1 else fp j) ⟨fun j s ej => ?_, fun j hj a ha => ?_, fun j l hj hl a ha hb => ?_, fun j hj => ?_⟩ (fq := fc 0) ⟨v, rfl, SR.monoF (same_hunR sFH hc.sF) r1, fun a m => h0.hnone (n1 a m)⟩ (fun a m => ?_) (qc.nd 0 l0) fun j hj a ha m => ?_⟩
    · have m : C.B a ≠ none := by rw [e]; exact fun z => by cases z
      rw [bk a (same_some h0.sB m) (bn a m)]; exact h0.sB a o e
    · rcases hun_some m with z | z
      · exact h0.gr a z
      · rcases hc.gr a z with y | y
        · exact h0.gr a y
        · exact .inr (h0.hnone y)
    · by_cases z : j = i
      · subst z
        rw [List.getElem?_set_self hil] at ej
        cases ej
        simp only [if_pos]
        refine ⟨v0, by rw [hv]; rfl, ST.monoF (same_hunR sFH hc.sF) r2, ?_⟩
        cases w with
        | none =>
          intro a ha
          rcases i1 a ha with m | m
          · exact h0.hnone m
          · exact kk a m
        | some w0 =>
          refine ⟨kk.1, fun a ha => ?_⟩
          rcases i1 a ha with m | m
          · exact .inl (h0.hnone m)
          · exact kk.2 a m
      · rw [List.getElem?_set_ne (fun y => z y.symm)] at ej
        have hj := lt_of_get ej
        simp only [if_neg z]
        exact (q.ok j s ej).go same_hunL (fun a m => bk a (same_some h0.sB m) (bn a m)) fun a ha => bk a (q.own j hj a ha).2.2 fun y => jH j hj z a ha (.inr y)
    · have hj' : j < env.length := by simpa using hj
      by_cases z : j = i
      · simp only [if_pos z] at ha
        exact ⟨bnn a (i1 a ha), hun_none (fnn a (i1 a ha)) (qc.own 1 l1 a ha).2.1, (qc.own 1 l1 a ha).2.2⟩
      · simp only [if_neg z] at ha
        obtain ⟨b, f, c⟩ := q.own j hj' a ha
        refine ⟨b, hun_none f ?_, up' a c⟩
        cases e : F' a with
        | none => rfl
        | some o =>
          rcases hc.gr a (by rw [e]; exact fun z => by cases z) with y | y
          · exact absurd f y
          · exact absurd y c
    · have hj' : j < env.length := by simpa using hj
      have hl' : l < env.length := by simpa using hl
      by_cases zj : j = i
      · by_cases zl : l = i
        · rw [zj, zl]
        · simp only [if_pos zj] at ha
          simp only [if_neg zl] at hb
          exact absurd (i1 a ha) (jH l hl' zl a hb)
      · simp only [if_neg zj] at ha
        by_cases zl : l = i
        · simp only [if_pos zl] at hb
          exact absurd (i1 a hb) (jH j hj' zj a ha)
        · simp only [if_neg zl] at hb
          exact q.sep j l hj' hl' a ha hb
    · have hj' : j < env.length := by simpa using hj
      by_cases z : j = i
      · simp only [if_pos z]; exact qc.nd 1 l1
      · simp only [if_neg z]; exact q.nd j hj'
    · have := n1 a m
      exact ⟨h0.bnone this, hun_none (h0.fnone this) (qc.own 0 l0 a m).2.1, (qc.own 0 l0 a m).2.2⟩
    · have hj' : j < env.length := by simpa using hj
      by_cases z : j = i
      · simp only [if_pos z] at ha
        exact sep01 a m ha
      · simp only [if_neg z] at ha
        exact (q.own j hj' a ha).2.2 (n1 a m)
/-- f(x, ..), f changes x's object -/
theorem lx_callI {w : Option V} {t0 : T} {t : Pt → T} {m : T → A → Option (R × T)} {fa : (A → Pt → Option Ω) → Option Ω} {vn : Str} {vp : Pos} (i : Nat) (Fn : FnOk X.prog X.w X.K X.mg X.base CX0 k f fd ps (spI X.K ST sl SR m)) (hr : Room k X.A) (hm : X.mg nm = some (.ref f)) (hk : PySem.W.keepIn X.K (.ref f) = true) (hb : Binds X.K fd ps []) (sh : ∀ a, ShE (sl a))
    (h0 : env[i]? = some (.st w T ST t0)) (ha : LA X env xs sl e' fa) (h1 : ∀ p, (e' p)[i]? = some (.st w T ST (t p))) (hN : X.N[i]? = some vn := by rfl) (hv : Vis X.env.scope vn := by first | exact Or.inl rfl | exact Or.inr (Or.inl rfl) | exact Or.inr (Or.inr rfl)) (hd : (vn == ("__debug__" : Str)) = false := by decide) (hcd : (vn == ("__classdict__" : Str)) = false := by decide)
    (hg : Gl X nm := by rfl) (hdb : (nm == ("__debug__" : Str)) = false := by decide) (he : starEach (Expr.Name vn vp :: xs) X.env = (false, eval (Expr.Name vn vp) X.env) :: starEach xs X.env := by rfl) (hpl : (backTo pos (starEach xs X.env)).any (·.1) = false := by rfl) :
    LX X env (.Call (.Name nm np) (.Name vn vp :: xs) [] pos) SR (fun p : Pt × T => (e' p.1).set i (.st w T ST p.2)) (fun k => fa fun a p => (m (t p) a).bind fun r => k r.1 (p, r.2)) :=
  fun C F H σs es σ k ω Q hK hl h hk' q => tE.of X (pe_call Fn hr hg hm hk hb .nil pass0 (paC X) hdb he hpl) (la_lend i h0 hN hv ha hd hcd he C F H σs es σ _ ω _ hK hl h hk' fun a p v0 vs F' H' hk2 hv0 hlv h' => by
    obtain ⟨⟨r, t'⟩, hm', hk2⟩ := bind_some hk2
    show spI X.K ST sl SR m (v0 :: vs ++ []) H' Q _
    rw [List.append_nil, ← hK]
    have h2 : ER C F' H' (vs.map some ++ (σs ++ σ)) (sl a ++ (es ++ e' p)) := h'
    obtain ⟨B, io, g1, g2⟩ := h2.enterI (i := es.length + i) (v0 := v0) hlv (sh a) (by rw [at_app _ rfl]; exact h1 p) (by rw [at_app _ hl]; exact hv0)
    refine ⟨B, F', io, t p, a, r, t', v0, vs, rfl, hm', hlv, g1, fun F2 H2 v h3 => ?_⟩
    obtain ⟨F3, h4⟩ := g2 R SR r t' F2 H2 v h3
    rw [List.set_append_right _ _ (Nat.le_add_right _ _), Nat.add_sub_cancel_left] at h4
    exact q r (p, t') v F3 H2 hk2 h4)
end
end Z

set_option Elab.async false
set_option linter.all false
set_option maxRecDepth 100000
namespace Z
open PySem PySem.Spec PyProof.Rows L2

/-! ### comprehensions -/
def compO {α β S Ω : Type} : List α → S → (α → S → (Option β → S → Option Ω) → Option Ω) → List β → (List β → S → Option Ω) → Option Ω
  | [], s, _, acc, k => k acc s
  | x :: xs, s, b, acc, k => b x s fun o s' => match o with
    | some y => ck (decide (acc.length < SZ)) (compO xs s' b (acc ++ [y]) k)
    | none => compO xs s' b acc k
section
variable {C : Ck} {F F' H H' : Hp} {σ σ' σs : List (Option V)} {env es : Env}
theorem ER.like (h : ER C F H (σs ++ σ) (es ++ env)) (hl : σs.length = es.length) (hl2 : σ'.length = σ.length) (he : ∀ (j : Nat) (s : Slot), env[j]? = some s → s = Slot.un ∨ σ'[j]? = σ[j]?) : ER C F H (σs ++ σ') (es ++ env) := by
  have hls := h.lenF hl
  refine h.perm (by simp [hl, hl2, hls]) id fun j s' e => ?_
  by_cases z : j < es.length
  · exact .inr ⟨e, by rw [id, List.getElem?_append_left (by omega), List.getElem?_append_left (by omega)], fun l _ _ _ y => y⟩
  · obtain ⟨m, rfl⟩ : ∃ m, j = es.length + m := ⟨j - es.length, by omega⟩
    have e' := e
    rw [at_app _ rfl] at e'
    rcases he m s' e' with y | y
    · exact .inl y
    · exact .inr ⟨e, by rw [id, at_app _ hl, at_app _ hl, y], fun l _ _ _ y => y⟩
end
section
variable (X : Cx) {Ω : Type}
def tTl (ifs : List Expr) : TT := fun σ H Q => ∀ pins s, Inv X pins σ H s → wpAny (model X.prog X.w) X.A (forIn ifs true fun c r => if r = true then do let ok ← isTrue c X.env (eval c X.env); pure (ForInStep.yield ok) else pure (ForInStep.yield r)) (TP X pins σ Q) X.xe s
theorem ptsC {ifs : List Expr} : PTs X ifs (tTl X ifs) := ⟨fun pins s σ H Q I h => h pins s I⟩
theorem tTl.of {ifs : List Expr} {t : TT} {σ : L2.St} {H : Hp} {Q : Bool → Hp → Prop} (h : PTs X ifs t) (q : t σ H Q) : tTl X ifs σ H Q := fun pins s I => h.run pins s σ H Q I q
/-- the tests of a comprehension -/
def LTl (env : Env) (ifs : List Expr) {P : Type} (env' : P → Env) (f : (Bool → P → Option Ω) → Option Ω) : Prop :=
  ∀ (C : Ck) (F H : Hp) (σs : List (Option V)) (es : Env) (σ : List (Option V)) (k : Bool → P → Option Ω) (ω : Ω) (Q : Bool → Hp → Prop), C.K = X.K → σs.length = es.length → ER C F H (σs ++ σ) (es ++ env) → f k = some ω →
    (∀ a p F' H', k a p = some ω → ER C F' H' (σs ++ σ) (es ++ env' p) → Q a H') → tTl X ifs σ H Q
end
/-- the contexts of a block's turns -/
structure Blk (X : Cx) (scope : Scope) (Y : Cx) : Prop where
  is : ∃ (s : Shared) (H : Hp) (C : Addr) (cl : List (Str × Addr)) (fp : List Addr), Y = X.blk s H scope (compEnvC scope cl C X.env) fp
section
variable {X : Cx} {Ω : Type} {env : Env} {nm : Str} {pos spos np : Pos} {a b c e elt tg iter : Expr} {ifs : List Expr} {P P1 P2 T : Type} {τ τ1 τ2 α β : Type} {S : Stor τ} {Sa : Stor α} {Sb : Stor β} {E : Enc τ} {e' : P → Env} {scope : Scope} {own : List (Str × Nat)} {ix : List Nat}
theorem ltl_nil : LTl X env [] (fun _ : Unit => env) (fun (k : Bool → Unit → Option Ω) => k true ()) :=
  fun C F H σs es σ k ω Q hK hl hr hk q => tTl.of X pts_nil (q true () F H hk hr)
theorem ltl_one {f : (Bool → P → Option Ω) → Option Ω} (h : LT X env c e' f) : LTl X env [c] e' f :=
  fun C F H σs es σ k ω Q hK hl hr hk q => tTl.of X (pts_one (ptC X)) (h C F H σs es σ k ω Q hK hl hr hk q)
theorem lc_run {envT : T → Env} {envX : T → α → Env} {eT : T → α → P1 → Env} {eE : T → α → P1 → P2 → Env} {f : (List α → P → Option Ω) → Option Ω} {ft : T → α → (Bool → P1 → Option Ω) → Option Ω} {fe : T → α → P1 → (β → P2 → Option Ω) → Option Ω}
    (hi : LI X env tg iter Sa e' f) (s0 : P → T) (h0 : ∀ p, Sub (e' p) (envT (s0 p))) (hu : ∀ (t : T) (i : Nat) (s : Slot), i ∈ own.map (·.2) → (envT t)[i]? = some s → s = Slot.un)
    (hg : ∀ Y, Blk X scope Y → ∀ t, LG Y (own.map (·.2)) (envT t) tg Sa (envX t)) (ht : ∀ Y, Blk X scope Y → ∀ t x, LTl Y (envX t x) ifs (eT t x) (ft t x)) (he : ∀ Y, Blk X scope Y → ∀ t x p, LX Y (eT t x p) elt Sb (eE t x p) (fe t x p))
    (tn : T → α → P1 → P2 → T) (hn : ∀ t x p q, Sub (eE t x p q) (envT (tn t x p q))) (tf : T → α → P1 → T) (hf : ∀ t x p, Sub (eT t x p) (envT (tf t x p)))
    {C : Ck} {F H : Hp} {σs : List (Option V)} {es : Env} {σ : List (Option V)} {k : List β → T → Option Ω} {ω : Ω} {Q : VK} (hK : C.K = X.K) (hl : σs.length = es.length) (h : ER C F H (σs ++ σ) (es ++ env))
    (hk : (f fun xs p => compO xs (s0 p) (fun x t kc => ft t x fun b p1 => if b = true then fe t x p1 fun y p2 => kc (some y) (tn t x p1 p2) else kc none (tf t x p1)) [] k) = some ω)
    (q : ∀ ys t v F' H', k ys t = some ω → ER C F' H' (some v :: (σs ++ σ)) (.st none (List β) (ls Sb) ys :: (es ++ envT t)) → Q v H') :
    tLc (tI X tg iter) (fun v σ H Q => ∀ Y, Blk X scope Y → tG Y tg v σ H Q) (fun σ H Q => ∀ Y, Blk X scope Y → tTl Y ifs σ H Q) (fun σ H Q => ∀ Y, Blk X scope Y → tE Y elt σ H Q) (own.map (·.2)) σ H Q := by
  refine hi C F H σs es σ _ ω _ hK hl h hk fun xs p Jt F' H' σx ex hk' h' hy => ?_
  intro D nD
  have like : ∀ {F2 H2 σp ep t}, σp.length = ep.length → ER C F2 H2 (σp ++ (σx ++ (σs ++ σ))) (ep ++ (ex ++ (es ++ envT t))) → ER C F2 H2 (σp ++ (σx ++ (σs ++ wipe σ (own.map (·.2))))) (ep ++ (ex ++ (es ++ envT t))) := fun {F2 H2 σp ep t} hlp h2 => by
    have h3 : ER C F2 H2 ((σp ++ σx ++ σs) ++ σ) ((ep ++ ex ++ es) ++ envT t) := by simpa [List.append_assoc] using h2
    have := h3.like (σ' := wipe σ (own.map (·.2))) (by simp [hlp, hl, hy.len]) (wipe_length _ _) fun j s e => by
      by_cases m : j ∈ own.map (·.2)
      · exact .inl (hu t j s m e)
      · refine .inr ?_
        rw [wipe_get, if_neg m]
    simpa [List.append_assoc] using this
  have unlike : ∀ {F2 H2 σp ep t σ4}, σp.length = ep.length → σ4.length = σ.length → wipe σ4 (own.map (·.2)) = wipe σ (own.map (·.2)) → ER C F2 H2 (σp ++ (σx ++ (σs ++ σ4))) (ep ++ (ex ++ (es ++ envT t))) → ER C F2 H2 (σp ++ (σx ++ (σs ++ σ))) (ep ++ (ex ++ (es ++ envT t))) := fun {F2 H2 σp ep t σ4} hlp hl4 hw h2 => by
    have h3 : ER C F2 H2 ((σp ++ σx ++ σs) ++ σ4) ((ep ++ ex ++ es) ++ envT t) := by simpa [List.append_assoc] using h2
    have := h3.like (σ' := σ) (by simp [hlp, hl, hy.len]) hl4.symm fun j s e => by
      by_cases m : j ∈ own.map (·.2)
      · exact .inl (hu t j s m e)
      · refine .inr ?_
        have := congrArg (fun l => l[j]?) hw
        simp only [wipe_get, if_neg m] at this
        exact this.symm
    simpa [List.append_assoc] using this
  have hnew : ER C F' (upd H' D (.lst [])) (some (.ref D) :: (σx ++ (σs ++ σ))) (.st none (List β) (ls Sb) [] :: (ex ++ (es ++ e' p))) := h'.newOw nD ⟨D, [], [], rfl, upd_same, .nil, rfl⟩
  refine ⟨fun i m H2 => m = xs.length - i ∧ i ≤ xs.length ∧ ∃ acc t F2, ER C F2 H2 (some (.ref D) :: (σx ++ (σs ++ σ))) (.st none (List β) (ls Sb) acc :: (ex ++ (es ++ envT t))) ∧
    compO (xs.drop i) t (fun x t kc => ft t x fun b p1 => if b = true then fe t x p1 fun y p2 => kc (some y) (tn t x p1 p2) else kc none (tf t x p1)) acc k = some ω,
    ⟨xs.length, by simp, Nat.zero_le _, [], s0 p, F', ER.sub hnew (.keep (((h0 p).pre es).pre ex)), by simpa using hk'⟩, ?_⟩
  rintro i m H2 ⟨rfl, hi', acc, t, F2, h2, hk2⟩
  obtain ⟨y1, y2⟩ := hy.go i F2 H2 [some (.ref D)] (σs ++ σ) [.st none (List β) (ls Sb) acc] (es ++ envT t) rfl h2
  by_cases hlt : i < xs.length
  · have ex1 : xs[i]? = some xs[i] := List.getElem?_eq_getElem hlt
    obtain ⟨g1, g2⟩ := y1 _ ex1
    have ed : xs.drop i = xs[i] :: xs.drop (i + 1) := List.drop_eq_getElem_cons hlt
    rw [ed] at hk2
    refine .inr ⟨g1, fun H3 => ∃ acc t F3, ER C F3 H3 (some (.ref D) :: (σx ++ (σs ++ σ))) (.st none (List β) (ls Sb) acc :: (ex ++ (es ++ envT t))) ∧
      compO (xs.drop (i + 1)) t (fun x t kc => ft t x fun b p1 => if b = true then fe t x p1 fun y p2 => kc (some y) (tn t x p1 p2) else kc none (tf t x p1)) acc k = some ω,
      fun H3 ⟨acc3, t3, F3, h3, hk3⟩ => ⟨xs.length - (i + 1), by omega, rfl, hlt, acc3, t3, F3, h3, hk3⟩, fun v H3 hv Y bY => ?_⟩
    have YK : C.K = Y.K := by obtain ⟨_, _, _, _, _, rfl⟩ := bY.is; exact hK
    obtain ⟨F3, h3⟩ := g2 v H3 hv
    have h3' := like (σp := [some v, some (.ref D)]) (ep := [.st none α Sa xs[i], .st none (List β) (ls Sb) acc]) rfl h3
    have lenp : ((some (.ref D) : Option V) :: (σx ++ σs)).length = ((.st none (List β) (ls Sb) acc : Slot) :: (ex ++ es)).length := by simp [hl, hy.len]
    refine hg Y bY t C F3 H3 (some (.ref D) :: (σx ++ σs)) (.st none (List β) (ls Sb) acc :: (ex ++ es)) (wipe σ (own.map (·.2))) v xs[i] _ YK lenp (by simpa [List.append_assoc] using h3') fun σ4 e4 h4 => ?_
    have hw : wipe σ4 (own.map (·.2)) = wipe (wipe σ (own.map (·.2))) (own.map (·.2)) := e4.wipe
    have hww : wipe (wipe σ (own.map (·.2))) (own.map (·.2)) = wipe σ (own.map (·.2)) := by
      apply List.ext_getElem?
      intro j
      rw [wipe_get, wipe_length, wipe_get]
      by_cases m : j ∈ own.map (·.2)
      · rw [if_pos m, if_pos m]
      · rw [if_neg m, if_neg m]
    have hl4 : σ4.length = σ.length := by rw [e4.1, wipe_length]
    refine ⟨hw.trans hww, fun Y bY => ?_⟩
    have YK : C.K = Y.K := by obtain ⟨_, _, _, _, _, rfl⟩ := bY.is; exact hK
    refine ht Y bY t xs[i] C F3 H3 (some (.ref D) :: (σx ++ σs)) (.st none (List β) (ls Sb) acc :: (ex ++ es)) σ4 _ ω _ YK lenp h4 hk2 fun bb p1 F5 H5 hk5 h5 => ?_
    cases bb with
    | false =>
      rw [if_neg Bool.false_ne_true] at hk5 ⊢
      refine ⟨acc, tf t xs[i] p1, F5, ?_, hk5⟩
      have h6 := ER.subF (σs := some (.ref D) :: (σx ++ σs)) h5 (hf t xs[i] p1)
      exact unlike (σp := [some (.ref D)]) (ep := [.st none (List β) (ls Sb) acc]) rfl hl4 (hw.trans hww) (by simpa [List.append_assoc] using h6)
    | true =>
      rw [if_pos rfl] at hk5 ⊢
      intro Y bY
      have YK : C.K = Y.K := by obtain ⟨_, _, _, _, _, rfl⟩ := bY.is; exact hK
      refine he Y bY t xs[i] p1 C F5 H5 (some (.ref D) :: (σx ++ σs)) (.st none (List β) (ls Sb) acc :: (ex ++ es)) σ4 _ ω _ YK lenp h5 hk5 fun y p2 u F6 H6 hk6 h6 => ?_
      have h7 : ER C F6 H6 (some u :: some (.ref D) :: (σx ++ (σs ++ σ4))) (.st none β Sb y :: .st none (List β) (ls Sb) acc :: (ex ++ (es ++ eE t xs[i] p1 p2))) := by simpa [List.append_assoc] using h6
      obtain ⟨hc, hk6⟩ := ck_some hk6
      obtain ⟨v', fp', v0, fq, e2, e3, r1, r2, nd, ow, fin⟩ := h7.absorb (i := 0) (w := none) (τ := List β) (S := ls Sb) (x := acc) rfl
      simp at e2 e3; subst e2; subst e3
      obtain ⟨q1, vs, fps, e4', hq, ra, rfl⟩ := r1
      cases e4'
      have hlen := ra.length
      have hc' := of_decide_eq_true hc
      refine ⟨vs, hq, by rw [SZ_eq]; omega, acc ++ [y], tn t xs[i] p1 p2, F6, ?_, hk6⟩
      have nm : D ∉ fps ++ fq := by
        have : (D :: (fps ++ fq)).Nodup := by simpa using nd
        exact (List.nodup_cons.mp this).1
      have fin' := fin (List β) (ls Sb) (acc ++ [y]) (upd H6 D (.lst (vs ++ [u]))) (D :: (fps ++ fq)) (fun a na _ => upd_ne fun z => na (by rw [z]; simp)) (fun a m => by
        by_cases z : a = D
        · subst z; rw [upd_same]; exact fun z => by cases z
        · rw [upd_ne z]; exact m) ⟨D, vs ++ [u], fps ++ fq, rfl, upd_same, RelAll.imp (fun fr' v' x' s q => Sb.frame (fun a m => upd_ne fun z => nm (z ▸ s a m)) q) (ra.app r2), rfl⟩ (by simpa using nd) (fun a m => by
        refine ⟨?_, .inl (by simpa using m)⟩
        by_cases z : a = D
        · subst z; rw [upd_same]; exact fun z => by cases z
        · rw [upd_ne z]; exact (ow a (by simpa using m)).2.2)
      have h8 : ER C F6 (upd H6 D (.lst (vs ++ [u]))) ((some (.ref D) :: (σx ++ σs)) ++ σ4) ((.st none (List β) (ls Sb) (acc ++ [y]) :: (ex ++ es)) ++ eE t xs[i] p1 p2) := by simpa [List.append_assoc] using fin'
      have h9 := h8.subF (hn t xs[i] p1 p2)
      exact unlike (σp := [some (.ref D)]) (ep := [.st none (List β) (ls Sb) (acc ++ [y])]) rfl hl4 (hw.trans hww) (by simpa [List.append_assoc] using h9)
  · have e : i = xs.length := by omega
    subst e
    refine .inl ⟨y2 (by simp), q acc t (.ref D) F2 H2 (by simpa [compO] using hk2) ?_⟩
    have h3 : ER C F2 H2 (σx ++ some (.ref D) :: (σs ++ σ)) (ex ++ .st none (List β) (ls Sb) acc :: (es ++ envT t)) := ER.unrot h2 hy.len
    exact h3.popN hy.len
end
end Z

set_option Elab.async false
set_option linter.all false
set_option maxRecDepth 100000
namespace Z
open PySem PySem.Spec PyProof.Rows L2

section
variable {X : Cx} {Ω : Type} {env : Env} {nm : Str} {pos spos np : Pos} {a b c e elt tg iter : Expr} {ifs : List Expr} {P P1 P2 T : Type} {τ τ1 τ2 α β : Type} {S : Stor τ} {Sa : Stor α} {Sb : Stor β} {E : Enc τ} {e' : P → Env} {scope : Scope} {own : List (Str × Nat)} {ix : List Nat}
/-- [elt for tg in iter if ..] -/
theorem lx_lc {envT : T → Env} {envX : T → α → Env} {eT : T → α → P1 → Env} {eE : T → α → P1 → P2 → Env} {f : (List α → P → Option Ω) → Option Ω} {ft : T → α → (Bool → P1 → Option Ω) → Option Ω} {fe : T → α → P1 → (β → P2 → Option Ω) → Option Ω}
    (hc : X.calm = true) (hN : X.N.Nodup) (ok : BlkOk X.N X.env.scope scope own)
    (hi : LI X env tg iter Sa e' f) (s0 : P → T) (h0 : ∀ p, Sub (e' p) (envT (s0 p))) (hu : ∀ (t : T) (i : Nat) (s : Slot), i ∈ own.map (·.2) → (envT t)[i]? = some s → s = Slot.un)
    (hg : ∀ (s : Shared) (H : Hp) (C : Addr) (cl : List (Str × Addr)) (fp : List Addr) t, LG (X.blk s H scope (compEnvC scope cl C X.env) fp) (own.map (·.2)) (envT t) tg Sa (envX t)) (ht : ∀ (s : Shared) (H : Hp) (C : Addr) (cl : List (Str × Addr)) (fp : List Addr) t x, LTl (X.blk s H scope (compEnvC scope cl C X.env) fp) (envX t x) ifs (eT t x) (ft t x)) (he : ∀ (s : Shared) (H : Hp) (C : Addr) (cl : List (Str × Addr)) (fp : List Addr) t x p, LX (X.blk s H scope (compEnvC scope cl C X.env) fp) (eT t x p) elt Sb (eE t x p) (fe t x p))
    (tn : T → α → P1 → P2 → T) (hn : ∀ t x p q, Sub (eE t x p q) (envT (tn t x p q))) (tf : T → α → P1 → T) (hf : ∀ t x p, Sub (eT t x p) (envT (tf t x p)))
    (hs : ∀ x, foldedSetIterable iter X.env x = pure x := by intro _; rfl) :
    LX X env (.ListComp elt [⟨tg, iter, ifs, 0⟩] scope pos) (ls Sb) envT (fun k => f fun xs p => compO xs (s0 p) (fun x t kc => ft t x fun b p1 => if b = true then fe t x p1 fun y p2 => kc (some y) (tn t x p1 p2) else kc none (tf t x p1)) [] k) :=
  fun C F H σs es σ k ω Q hK hl h hk q => tE.of X (pe_lc hc hN (piC X) ok (fun s H C cl fp => ⟨fun pins s' σ H' v u Q I r h => h _ ⟨s, H, C, cl, fp, rfl⟩ pins s' u I r⟩) (fun s H C cl fp => ⟨fun pins s' σ H' Q I h => h _ ⟨s, H, C, cl, fp, rfl⟩ pins s' I⟩) (fun s H C cl fp => ⟨fun pins s' σ H' Q I h => h _ ⟨s, H, C, cl, fp, rfl⟩ pins s' I⟩) hs)
    (lc_run hi s0 h0 hu (fun Y bY => by obtain ⟨s, H, C, cl, fp, rfl⟩ := bY.is; exact hg s H C cl fp) (fun Y bY => by obtain ⟨s, H, C, cl, fp, rfl⟩ := bY.is; exact ht s H C cl fp) (fun Y bY => by obtain ⟨s, H, C, cl, fp, rfl⟩ := bY.is; exact he s H C cl fp) tn hn tf hf hK hl h hk q)
/-- y = [..], y a local of the def, on one line -/
theorem lb_setLc {R I J : Type} {SR : Stor R} {envR : I → Env} {kr : R → I → Option Ω} {bk ct : Lp Ω} {rest : List Stmt} {envJ : J → Env} {fr : List β → T → (J → Option Ω) → Option Ω} {py : Pos}
    {envT : T → Env} {envX : T → α → Env} {eT : T → α → P1 → Env} {eE : T → α → P1 → P2 → Env} {f : (List α → P → Option Ω) → Option Ω} {ft : T → α → (Bool → P1 → Option Ω) → Option Ω} {fe : T → α → P1 → (β → P2 → Option Ω) → Option Ω}
    (hc : X.calm = true) (hN : X.N.Nodup) (ok : BlkOk X.N X.env.scope scope own) (i : Nat)
    (hi : LI X env tg iter Sa e' f) (s0 : P → T) (h0 : ∀ p, Sub (e' p) (envT (s0 p))) (hu : ∀ (t : T) (i : Nat) (s : Slot), i ∈ own.map (·.2) → (envT t)[i]? = some s → s = Slot.un)
    (hg : ∀ (s : Shared) (H : Hp) (C : Addr) (cl : List (Str × Addr)) (fp : List Addr) t, LG (X.blk s H scope (compEnvC scope cl C X.env) fp) (own.map (·.2)) (envT t) tg Sa (envX t)) (ht : ∀ (s : Shared) (H : Hp) (C : Addr) (cl : List (Str × Addr)) (fp : List Addr) t x, LTl (X.blk s H scope (compEnvC scope cl C X.env) fp) (envX t x) ifs (eT t x) (ft t x)) (he : ∀ (s : Shared) (H : Hp) (C : Addr) (cl : List (Str × Addr)) (fp : List Addr) t x p, LX (X.blk s H scope (compEnvC scope cl C X.env) fp) (eT t x p) elt Sb (eE t x p) (fe t x p))
    (tn : T → α → P1 → P2 → T) (hn : ∀ t x p q, Sub (eE t x p q) (envT (tn t x p q))) (tf : T → α → P1 → T) (hf : ∀ t x p, Sub (eT t x p) (envT (tf t x p)))
    (hr : ∀ ys t, LB X SR envR kr bk ct ((envT t).set i (.st none (List β) (ls Sb) ys)) rest envJ (fr ys t)) (hsw : swapsWith (.ListComp elt [⟨tg, iter, ifs, 0⟩] scope pos) (some (.Name nm py)) spos.line X.env = pure true) (hlt : ∀ t, i < (envT t).length := by exact (fun _ => Nat.lt_of_sub_eq_succ rfl)) (hy : X.N[i]? = some nm := by rfl) (hyl : X.env.scope.names.lookup nm = some .local := by rfl)
    (hs : ∀ x, foldedSetIterable iter X.env x = pure x := by intro _; rfl) :
    LB X SR envR kr bk ct env (.Assign [.Name nm py] (.ListComp elt [⟨tg, iter, ifs, 0⟩] scope pos) spos :: rest) envJ
      (fun kn => f fun xs p => compO xs (s0 p) (fun x t kc => ft t x fun b p1 => if b = true then fe t x p1 fun y p2 => kc (some y) (tn t x p1 p2) else kc none (tf t x p1)) [] fun ys t => fr ys t kn) :=
  fun C F H σs es σ kn ω D hK hl h hk qn qb qc qr => tSs.of X (pss_cons (ps_setLc (g := fun v σ H Q => ∀ Y, Blk X scope Y → tG Y tg v σ H Q) (tt := fun σ H Q => ∀ Y, Blk X scope Y → tTl Y ifs σ H Q) (te := fun σ H Q => ∀ Y, Blk X scope Y → tE Y elt σ H Q) hc hN hy hyl hsw (piC X) ok (fun s H C cl fp => ⟨fun pins s' σ H' v u Q I r h => h _ ⟨s, H, C, cl, fp, rfl⟩ pins s' u I r⟩) (fun s H C cl fp => ⟨fun pins s' σ H' Q I h => h _ ⟨s, H, C, cl, fp, rfl⟩ pins s' I⟩) (fun s H C cl fp => ⟨fun pins s' σ H' Q I h => h _ ⟨s, H, C, cl, fp, rfl⟩ pins s' I⟩) hs) (pssC X))
    (lc_run hi s0 h0 hu (fun Y bY => by obtain ⟨s, H, C, cl, fp, rfl⟩ := bY.is; exact hg s H C cl fp) (fun Y bY => by obtain ⟨s, H, C, cl, fp, rfl⟩ := bY.is; exact ht s H C cl fp) (fun Y bY => by obtain ⟨s, H, C, cl, fp, rfl⟩ := bY.is; exact he s H C cl fp) tn hn tf hf hK hl h hk fun ys t v F' H' hk' h' => hr ys t C F' H' σs es (σ.set i (some v)) kn ω D hK hl (h'.asg hl (hlt t)) hk' qn qb qc qr)

/-! ### built-ins over one thing -/
/-- f(e): what comes back is told by data -/
theorem lx_b1 {G : Env → Prop} {id : String} {r : List V → Hp → VK → Prop} {E : Enc β} {g : τ → Option β} {f : (τ → P → Option Ω) → Option Ω} (hcall : CallR X (.builtin id) r) (hm : X.mg nm = none) (hv : bootBuiltins nm = some (.builtin id)) (ha : LO X G env a S e' f) (hG : ∀ p, G (e' p))
    (hr : ∀ K F H fp v x y (Q : VK), K = X.K → Same F H → g x = some y → S.rel K F H fp v x → (∀ u, Rep K F u (E.enc y) → Q u H) → r [v] H Q)
    (hg : Gl X nm := by rfl) (hn : nm ≠ "__name__" := by decide) (hdb : (nm == ("__debug__" : Str)) = false := by decide) (he : starEach (a :: []) X.env = (false, eval a X.env) :: starEach [] X.env := by rfl) (hpl : (backTo pos (starEach [] X.env)).any (·.1) = false := by rfl) :
    LX X env (.Call (.Name nm np) [a] [] pos) (it E) e' (fun k => f fun x p => (g x).bind fun y => k y p) :=
  fun C F H σs es σ k ω Q hK hl h hk q => tE.of X (pe_callB hcall hg hm hv (pa_cons (peC X) pa_nil he) hn hdb he hpl) (lo_run ha hG hK hl h hk fun x p v F' H' fp hk' h' rr => by
    obtain ⟨y, hy, hk'⟩ := bind_some hk'
    exact hr C.K F' H' fp v x y Q hK h'.sF hy rr fun u hu => q y p u F' H' hk' (h'.pushSh hu))
/-- .. that always comes back -/
theorem lx_b1t {G : Env → Prop} {id : String} {r : List V → Hp → VK → Prop} {E : Enc β} {g : τ → β} {f : (τ → P → Option Ω) → Option Ω} (hcall : CallR X (.builtin id) r) (hm : X.mg nm = none) (hv : bootBuiltins nm = some (.builtin id)) (ha : LO X G env a S e' f) (hG : ∀ p, G (e' p))
    (hr : ∀ K F H fp v x (Q : VK), K = X.K → Same F H → S.rel K F H fp v x → (∀ u, Rep K F u (E.enc (g x)) → Q u H) → r [v] H Q)
    (hg : Gl X nm := by rfl) (hn : nm ≠ "__name__" := by decide) (hdb : (nm == ("__debug__" : Str)) = false := by decide) (he : starEach (a :: []) X.env = (false, eval a X.env) :: starEach [] X.env := by rfl) (hpl : (backTo pos (starEach [] X.env)).any (·.1) = false := by rfl) :
    LX X env (.Call (.Name nm np) [a] [] pos) (it E) e' (fun k => f fun x p => k (g x) p) :=
  fun C F H σs es σ k ω Q hK hl h hk q => tE.of X (pe_callB hcall hg hm hv (pa_cons (peC X) pa_nil he) hn hdb he hpl) (lo_run ha hG hK hl h hk fun x p v F' H' fp hk' h' rr =>
    hr C.K F' H' fp v x Q hK h'.sF rr fun u hu => q (g x) p u F' H' hk' (h'.pushSh hu))
/-- .. of a type -/
theorem lx_y1t {G : Env → Prop} {Ty : String} {r : List V → Hp → VK → Prop} {E : Enc β} {g : τ → β} {f : (τ → P → Option Ω) → Option Ω} (hcall : CallR X (.type Ty) r) (hm : X.mg nm = none) (hv : bootBuiltins nm = some (.type Ty)) (ha : LO X G env a S e' f) (hG : ∀ p, G (e' p))
    (hr : ∀ K F H fp v x (Q : VK), K = X.K → Same F H → S.rel K F H fp v x → (∀ u, Rep K F u (E.enc (g x)) → Q u H) → r [v] H Q)
    (hg : Gl X nm := by rfl) (hn : nm ≠ "__name__" := by decide) (hdb : (nm == ("__debug__" : Str)) = false := by decide) (he : starEach (a :: []) X.env = (false, eval a X.env) :: starEach [] X.env := by rfl) (hpl : (backTo pos (starEach [] X.env)).any (·.1) = false := by rfl) :
    LX X env (.Call (.Name nm np) [a] [] pos) (it E) e' (fun k => f fun x p => k (g x) p) :=
  fun C F H σs es σ k ω Q hK hl h hk q => tE.of X (pe_callTy hcall hg hm hv (pa_cons (peC X) pa_nil he) hn hdb he hpl) (lo_run ha hG hK hl h hk fun x p v F' H' fp hk' h' rr =>
    hr C.K F' H' fp v x Q hK h'.sF rr fun u hu => q (g x) p u F' H' hk' (h'.pushSh hu))
/-- .. that makes a new list of shared things -/
theorem lx_b1n {G : Env → Prop} {id : String} {r : List V → Hp → VK → Prop} {E : Enc β} {g : τ → Option (List β)} {f : (τ → P → Option Ω) → Option Ω} (hcall : CallR X (.builtin id) r) (hm : X.mg nm = none) (hv : bootBuiltins nm = some (.builtin id)) (ha : LO X G env a S e' f) (hG : ∀ p, G (e' p))
    (hr : ∀ K F H fp v x y (Q : VK), K = X.K → Same F H → g x = some y → S.rel K F H fp v x → (∀ t vs, H t = none → RepAll K F vs (y.map E.enc) → Q (.ref t) (upd H t (.lst vs))) → r [v] H Q)
    (hg : Gl X nm := by rfl) (hn : nm ≠ "__name__" := by decide) (hdb : (nm == ("__debug__" : Str)) = false := by decide) (he : starEach (a :: []) X.env = (false, eval a X.env) :: starEach [] X.env := by rfl) (hpl : (backTo pos (starEach [] X.env)).any (·.1) = false := by rfl) :
    LX X env (.Call (.Name nm np) [a] [] pos) (ls (it E)) e' (fun k => f fun x p => (g x).bind fun y => k y p) :=
  fun C F H σs es σ k ω Q hK hl h hk q => tE.of X (pe_callB hcall hg hm hv (pa_cons (peC X) pa_nil he) hn hdb he hpl) (lo_run ha hG hK hl h hk fun x p v F' H' fp hk' h' rr => by
    obtain ⟨y, hy, hk'⟩ := bind_some hk'
    exact hr C.K F' H' fp v x y Q hK h'.sF hy rr fun t vs nt hu => q y p (.ref t) F' _ hk' (h'.newOw nt ⟨t, vs, [], rfl, upd_same, hu.zero, rfl⟩))
theorem lx_y1n {G : Env → Prop} {Ty : String} {r : List V → Hp → VK → Prop} {E : Enc β} {g : τ → List β} {f : (τ → P → Option Ω) → Option Ω} (hcall : CallR X (.type Ty) r) (hm : X.mg nm = none) (hv : bootBuiltins nm = some (.type Ty)) (ha : LO X G env a S e' f) (hG : ∀ p, G (e' p))
    (hr : ∀ K F H fp v x (Q : VK), K = X.K → Same F H → S.rel K F H fp v x → (∀ t vs, H t = none → RepAll K F vs ((g x).map E.enc) → Q (.ref t) (upd H t (.lst vs))) → r [v] H Q)
    (hg : Gl X nm := by rfl) (hn : nm ≠ "__name__" := by decide) (hdb : (nm == ("__debug__" : Str)) = false := by decide) (he : starEach (a :: []) X.env = (false, eval a X.env) :: starEach [] X.env := by rfl) (hpl : (backTo pos (starEach [] X.env)).any (·.1) = false := by rfl) :
    LX X env (.Call (.Name nm np) [a] [] pos) (ls (it E)) e' (fun k => f fun x p => k (g x) p) :=
  fun C F H σs es σ k ω Q hK hl h hk q => tE.of X (pe_callTy hcall hg hm hv (pa_cons (peC X) pa_nil he) hn hdb he hpl) (lo_run ha hG hK hl h hk fun x p v F' H' fp hk' h' rr =>
    hr C.K F' H' fp v x Q hK h'.sF rr fun t vs nt hu => q (g x) p (.ref t) F' _ hk' (h'.newOw nt ⟨t, vs, [], rfl, upd_same, hu.zero, rfl⟩))
/-- f(a, b) of two ints -/
theorem lx_b2I {id : String} {r : List V → Hp → VK → Prop} {g : Int → Int → Int} {e1 : P1 → Env} {e2 : P1 → P2 → Env} {fa : (Int → P1 → Option Ω) → Option Ω} {fb : P1 → (Int → P2 → Option Ω) → Option Ω} (hcall : CallR X (.builtin id) r) (hr : ∀ i j H (Q : VK), Q (.int (g i j)) H → r [.int i, .int j] H Q) (hm : X.mg nm = none) (hv : bootBuiltins nm = some (.builtin id))
    (ha : LX X env a (it eI) e1 fa) (hb : ∀ p1, LX X (e1 p1) b (it eI) (e2 p1) (fb p1)) (hg : Gl X nm := by rfl) (hn : nm ≠ "__name__" := by decide) (hdb : (nm == ("__debug__" : Str)) = false := by decide)
    (he : starEach [a, b] X.env = (false, eval a X.env) :: starEach [b] X.env := by rfl) (he2 : starEach [b] X.env = (false, eval b X.env) :: starEach [] X.env := by rfl) (hpl : (backTo pos (starEach [b] X.env)).any (·.1) = false := by rfl) :
    LX X env (.Call (.Name nm np) [a, b] [] pos) (it eI) (fun p : P1 × P2 => e2 p.1 p.2) (fun k => fa fun x p1 => fb p1 fun y p2 => k (g x y) (p1, p2)) :=
  fun C F H σs es σ k ω Q hK hl h hk q => tE.of X (pe_callB hcall hg hm hv (pa_cons (peC X) (pa_cons (peC X) pa_nil he2) he) hn hdb he hpl) (op2_run (lo_of ha) (fun p1 => lo_of (hb p1)) (fun _ _ => trivial) (fun _ _ => trivial) hK hl h hk
    fun x p1 y p2 v u F' H' fp fq hk' h' r1 r2 => by
      obtain ⟨_, r1⟩ := r1
      obtain ⟨_, r2⟩ := r2
      cases r1; cases r2
      exact hr x y H' Q (q _ (p1, p2) _ F' H' hk' (h'.pushSh (.int _))))
section
variable {G : Env → Prop} {fI : (Int → P → Option Ω) → Option Ω} {f : (τ → P → Option Ω) → Option Ω} {g : τ → List α} {Ea : Enc α}
theorem lx_abs (hm : X.mg "abs" = none) (ha : LX X env a (it eI) e' fI) (hg : Gl X "abs" := by rfl) (he : starEach (a :: []) X.env = (false, eval a X.env) :: starEach [] X.env := by rfl) (hpl : (backTo pos (starEach [] X.env)).any (·.1) = false := by rfl) :
    LX X env (.Call (.Name "abs" np) [a] [] pos) (it eI) e' (fun k => fI fun x p => k (if x < 0 then -x else x) p) :=
  lx_b1t (E := eI) (g := fun x : Int => if x < 0 then -x else x) call_abs hm boot_abs (lo_of ha) (fun _ => trivial) (fun K F H fp v x Q _ _ r q => by obtain ⟨_, r⟩ := r; cases r; exact ⟨x, rfl, q _ (.int _)⟩) hg (by decide) (by decide) he hpl
theorem lx_int1 (hm : X.mg "int" = none) (ha : LX X env a (it eI) e' fI) (hg : Gl X "int" := by rfl) (he : starEach (a :: []) X.env = (false, eval a X.env) :: starEach [] X.env := by rfl) (hpl : (backTo pos (starEach [] X.env)).any (·.1) = false := by rfl) :
    LX X env (.Call (.Name "int" np) [a] [] pos) (it eI) e' (fun k => fI fun x p => k x p) :=
  lx_y1t (E := eI) (g := fun x : Int => x) call_int1 hm PyProof.Rows.boot_int (lo_of ha) (fun _ => trivial) (fun K F H fp v x Q _ _ r q => by obtain ⟨_, r⟩ := r; cases r; exact .inl ⟨x, rfl, q _ (.int _)⟩) hg (by decide) (by decide) he hpl
theorem lx_intB {fB : (Bool → P → Option Ω) → Option Ω} (hm : X.mg "int" = none) (ha : LX X env a (it eB) e' fB) (hg : Gl X "int" := by rfl) (he : starEach (a :: []) X.env = (false, eval a X.env) :: starEach [] X.env := by rfl) (hpl : (backTo pos (starEach [] X.env)).any (·.1) = false := by rfl) :
    LX X env (.Call (.Name "int" np) [a] [] pos) (it eI) e' (fun k => fB fun x p => k (if x = true then 1 else 0) p) :=
  lx_y1t (E := eI) (g := fun x : Bool => if x = true then (1 : Int) else 0) call_int1 hm PyProof.Rows.boot_int (lo_of ha) (fun _ => trivial) (fun K F H fp v x Q _ _ r q => by obtain ⟨_, r⟩ := r; cases r; exact .inr ⟨x, rfl, q _ (.int _)⟩) hg (by decide) (by decide) he hpl
theorem lx_max2 {e1 : P1 → Env} {e2 : P1 → P2 → Env} {fa : (Int → P1 → Option Ω) → Option Ω} {fb : P1 → (Int → P2 → Option Ω) → Option Ω} (hc : X.calm = true) (hm : X.mg "max" = none) (ha : LX X env a (it eI) e1 fa) (hb : ∀ p1, LX X (e1 p1) b (it eI) (e2 p1) (fb p1)) (hg : Gl X "max" := by rfl)
    (he : starEach [a, b] X.env = (false, eval a X.env) :: starEach [b] X.env := by rfl) (he2 : starEach [b] X.env = (false, eval b X.env) :: starEach [] X.env := by rfl) (hpl : (backTo pos (starEach [b] X.env)).any (·.1) = false := by rfl) :
    LX X env (.Call (.Name "max" np) [a, b] [] pos) (it eI) (fun p : P1 × P2 => e2 p.1 p.2) (fun k => fa fun x p1 => fb p1 fun y p2 => k (max x y) (p1, p2)) :=
  lx_b2I (call_max2 hc) (fun i j H Q q => ⟨i, j, rfl, by rw [show (if j > i then j else i) = max i j by omega]; exact q⟩) hm boot_max ha hb hg (by decide) (by decide) he he2 hpl
theorem lx_min2 {e1 : P1 → Env} {e2 : P1 → P2 → Env} {fa : (Int → P1 → Option Ω) → Option Ω} {fb : P1 → (Int → P2 → Option Ω) → Option Ω} (hc : X.calm = true) (hm : X.mg "min" = none) (ha : LX X env a (it eI) e1 fa) (hb : ∀ p1, LX X (e1 p1) b (it eI) (e2 p1) (fb p1)) (hg : Gl X "min" := by rfl)
    (he : starEach [a, b] X.env = (false, eval a X.env) :: starEach [b] X.env := by rfl) (he2 : starEach [b] X.env = (false, eval b X.env) :: starEach [] X.env := by rfl) (hpl : (backTo pos (starEach [b] X.env)).any (·.1) = false := by rfl) :
    LX X env (.Call (.Name "min" np) [a, b] [] pos) (it eI) (fun p : P1 × P2 => e2 p.1 p.2) (fun k => fa fun x p1 => fb p1 fun y p2 => k (min x y) (p1, p2)) :=
  lx_b2I (call_min2 hc) (fun i j H Q q => ⟨i, j, rfl, by rw [show (if j < i then j else i) = min i j by omega]; exact q⟩) hm boot_min ha hb hg (by decide) (by decide) he he2 hpl
theorem lx_len (hv : LVw S (it Ea) g) (hm : X.mg "len" = none) (ha : LO X G env a S e' f) (hG : ∀ p, G (e' p)) (hg : Gl X "len" := by rfl) (he : starEach (a :: []) X.env = (false, eval a X.env) :: starEach [] X.env := by rfl) (hpl : (backTo pos (starEach [] X.env)).any (·.1) = false := by rfl) :
    LX X env (.Call (.Name "len" np) [a] [] pos) (it eI) e' (fun k => f fun x p => k ((g x).length : Int) p) :=
  lx_b1t (E := eI) (g := fun x : τ => ((g x).length : Int)) call_len_seq hm PySem.boot_len ha hG (fun K F H fp v x Q hK s r q => by
    obtain ⟨p, vs, fps, rfl, h1, h2⟩ := hv.view s r
    have := h2.length
    exact ⟨p, vs, rfl, .inl (by rw [← hK]; exact h1), by rw [this]; exact q _ (.int _)⟩) hg (by decide) (by decide) he hpl
theorem lx_lenO {Sx : Stor α} (hv : LVw S Sx g) (hm : X.mg "len" = none) (ha : LO X G env a S e' f) (hG : ∀ p, G (e' p)) (hg : Gl X "len" := by rfl) (he : starEach (a :: []) X.env = (false, eval a X.env) :: starEach [] X.env := by rfl) (hpl : (backTo pos (starEach [] X.env)).any (·.1) = false := by rfl) :
    LX X env (.Call (.Name "len" np) [a] [] pos) (it eI) e' (fun k => f fun x p => k ((g x).length : Int) p) :=
  lx_b1t (E := eI) (g := fun x : τ => ((g x).length : Int)) call_len_seq hm PySem.boot_len ha hG (fun K F H fp v x Q hK s r q => by
    obtain ⟨p, vs, fps, rfl, h1, h2⟩ := hv.view s r
    have := h2.length
    exact ⟨p, vs, rfl, .inl (by rw [← hK]; exact h1), by rw [this]; exact q _ (.int _)⟩) hg (by decide) (by decide) he hpl
theorem lx_lenV (hv : TVw S (it Ea) g) (hm : X.mg "len" = none) (ha : LO X G env a S e' f) (hG : ∀ p, G (e' p)) (hg : Gl X "len" := by rfl) (he : starEach (a :: []) X.env = (false, eval a X.env) :: starEach [] X.env := by rfl) (hpl : (backTo pos (starEach [] X.env)).any (·.1) = false := by rfl) :
    LX X env (.Call (.Name "len" np) [a] [] pos) (it eI) e' (fun k => f fun x p => k ((g x).length : Int) p) :=
  lx_b1t (E := eI) (g := fun x : τ => ((g x).length : Int)) call_len_seq hm PySem.boot_len ha hG (fun K F H fp v x Q hK s r q => by
    obtain ⟨p, vs, fps, rfl, h1, h2⟩ := hv.view s r
    have := h2.length
    exact ⟨p, vs, rfl, .inr (by rw [← hK]; exact h1), by rw [this]; exact q _ (.int _)⟩) hg (by decide) (by decide) he hpl
theorem RepAll.ints {K : Fg} {F : Hp} : ∀ {vs : List V} {ns : List Int}, RepAll K F vs (ns.map eI.enc) → vs = ns.map V.int
  | [], [], _ => rfl
  | [], _ :: _, h => by cases h
  | _ :: _, [], h => by cases h
  | v :: vs, n :: ns, h => by
    cases h with
    | cons h1 h2 =>
      have h1' : Rep K F v (.int n) := h1
      cases h1'
      rw [RepAll.ints h2]; rfl
theorem RepAll.ofInts {K : Fg} {F : Hp} : ∀ (ns : List Int), RepAll K F (ns.map V.int) (ns.map eI.enc)
  | [] => .nil
  | n :: ns => .cons (.int n) (RepAll.ofInts ns)
theorem lx_sum {g : τ → List Int} (hc : X.calm = true) (hv : LVw S (it eI) g) (hm : X.mg "sum" = none) (ha : LO X G env a S e' f) (hG : ∀ p, G (e' p)) (hg : Gl X "sum" := by rfl) (he : starEach (a :: []) X.env = (false, eval a X.env) :: starEach [] X.env := by rfl) (hpl : (backTo pos (starEach [] X.env)).any (·.1) = false := by rfl) :
    LX X env (.Call (.Name "sum" np) [a] [] pos) (it eI) e' (fun k => f fun x p => k (g x).sum p) :=
  lx_b1t (E := eI) (g := fun x : τ => (g x).sum) (cr_sum hc) hm boot_sum ha hG (fun K F H fp v x Q hK s r q => by
    obtain ⟨p, vs, fps, rfl, h1, h2⟩ := hv.view s r
    have := h2.zero.2.ints
    subst this
    exact ⟨p, g x, rfl, by rw [← hK]; exact h1, q _ (.int _)⟩) hg (by decide) (by decide) he hpl
/-- the least, the greatest of a list of ints -/
def minI : List Int → Option Int
  | [] => none
  | x :: xs => some (xs.foldl min x)
def maxI : List Int → Option Int
  | [] => none
  | x :: xs => some (xs.foldl max x)
theorem foldl_min_le : ∀ (xs : List Int) (x : Int), xs.foldl min x ≤ x ∧ ∀ y ∈ xs, xs.foldl min x ≤ y
  | [], x => ⟨Int.le_refl x, fun _ m => nomatch m⟩
  | z :: xs, x => by
    obtain ⟨h1, h2⟩ := foldl_min_le xs (min x z)
    rw [List.foldl_cons]
    refine ⟨by omega, fun y m => ?_⟩
    rcases List.mem_cons.mp m with rfl | m
    · omega
    · exact h2 y m
theorem foldl_min_mem : ∀ (xs : List Int) (x : Int), xs.foldl min x = x ∨ xs.foldl min x ∈ xs
  | [], x => .inl rfl
  | z :: xs, x => by
    rw [List.foldl_cons]
    rcases foldl_min_mem xs (min x z) with h | h
    · by_cases c : x ≤ z
      · left; rw [h]; omega
      · right; rw [h, show min x z = z by omega]; exact List.mem_cons_self
    · exact .inr (List.mem_cons_of_mem _ h)
theorem foldl_max_le : ∀ (xs : List Int) (x : Int), x ≤ xs.foldl max x ∧ ∀ y ∈ xs, y ≤ xs.foldl max x
  | [], x => ⟨Int.le_refl x, fun _ m => nomatch m⟩
  | z :: xs, x => by
    obtain ⟨h1, h2⟩ := foldl_max_le xs (max x z)
    rw [List.foldl_cons]
    refine ⟨by omega, fun y m => ?_⟩
    rcases List.mem_cons.mp m with rfl | m
    · omega
    · exact h2 y m
theorem foldl_max_mem : ∀ (xs : List Int) (x : Int), xs.foldl max x = x ∨ xs.foldl max x ∈ xs
  | [], x => .inl rfl
  | z :: xs, x => by
    rw [List.foldl_cons]
    rcases foldl_max_mem xs (max x z) with h | h
    · by_cases c : z ≤ x
      · left; rw [h]; omega
      · right; rw [h, show max x z = z by omega]; exact List.mem_cons_self
    · exact .inr (List.mem_cons_of_mem _ h)
theorem minI_is {ns : List Int} {y m : Int} (h : minI ns = some y) (hm : m ∈ ns) (hle : ∀ z ∈ ns, m ≤ z) : m = y := by
  cases ns with
  | nil => cases h
  | cons x xs =>
    cases h
    obtain ⟨h1, h2⟩ := foldl_min_le xs x
    have a1 : xs.foldl min x ≤ m := by
      rcases List.mem_cons.mp hm with rfl | q
      · exact h1
      · exact h2 m q
    have a2 : m ≤ xs.foldl min x := by
      rcases foldl_min_mem xs x with q | q
      · rw [q]; exact hle x List.mem_cons_self
      · exact hle _ (List.mem_cons_of_mem _ q)
    omega
theorem maxI_is {ns : List Int} {y m : Int} (h : maxI ns = some y) (hm : m ∈ ns) (hle : ∀ z ∈ ns, z ≤ m) : m = y := by
  cases ns with
  | nil => cases h
  | cons x xs =>
    cases h
    obtain ⟨h1, h2⟩ := foldl_max_le xs x
    have a1 : m ≤ xs.foldl max x := by
      rcases List.mem_cons.mp hm with rfl | q
      · exact h1
      · exact h2 m q
    have a2 : xs.foldl max x ≤ m := by
      rcases foldl_max_mem xs x with q | q
      · rw [q]; exact hle x List.mem_cons_self
      · exact hle _ (List.mem_cons_of_mem _ q)
    omega
theorem lx_minI {g : τ → List Int} (hc : X.calm = true) (hv : LVw S (it eI) g) (hm : X.mg "min" = none) (ha : LO X G env a S e' f) (hG : ∀ p, G (e' p)) (hg : Gl X "min" := by rfl) (he : starEach (a :: []) X.env = (false, eval a X.env) :: starEach [] X.env := by rfl) (hpl : (backTo pos (starEach [] X.env)).any (·.1) = false := by rfl) :
    LX X env (.Call (.Name "min" np) [a] [] pos) (it eI) e' (fun k => f fun x p => (minI (g x)).bind fun y => k y p) :=
  lx_b1 (E := eI) (g := fun x : τ => minI (g x)) (cr_min hc) hm boot_min ha hG (fun K F H fp v x y Q hK s hy r q => by
    obtain ⟨p, vs, fps, rfl, h1, h2⟩ := hv.view s r
    have := h2.zero.2.ints
    subst this
    refine ⟨p, g x, rfl, by rw [← hK]; exact h1, ?_, fun m hmm hle => ?_⟩
    · cases hgx : g x with
      | nil => rw [hgx] at hy; cases hy
      | cons z zs => simp
    · rw [minI_is hy hmm hle]; exact q _ (.int _)) hg (by decide) (by decide) he hpl
theorem lx_maxI {g : τ → List Int} (hc : X.calm = true) (hv : LVw S (it eI) g) (hm : X.mg "max" = none) (ha : LO X G env a S e' f) (hG : ∀ p, G (e' p)) (hg : Gl X "max" := by rfl) (he : starEach (a :: []) X.env = (false, eval a X.env) :: starEach [] X.env := by rfl) (hpl : (backTo pos (starEach [] X.env)).any (·.1) = false := by rfl) :
    LX X env (.Call (.Name "max" np) [a] [] pos) (it eI) e' (fun k => f fun x p => (maxI (g x)).bind fun y => k y p) :=
  lx_b1 (E := eI) (g := fun x : τ => maxI (g x)) (cr_max hc) hm boot_max ha hG (fun K F H fp v x y Q hK s hy r q => by
    obtain ⟨p, vs, fps, rfl, h1, h2⟩ := hv.view s r
    have := h2.zero.2.ints
    subst this
    refine ⟨p, g x, rfl, by rw [← hK]; exact h1, ?_, fun m hmm hle => ?_⟩
    · cases hgx : g x with
      | nil => rw [hgx] at hy; cases hy
      | cons z zs => simp
    · rw [maxI_is hy hmm hle]; exact q _ (.int _)) hg (by decide) (by decide) he hpl
/-- list(xs) -/
theorem lx_listof (hv : LVw S (it Ea) g) (hm : X.mg "list" = none) (ha : LO X G env a S e' f) (hG : ∀ p, G (e' p)) (hg : Gl X "list" := by rfl) (he : starEach (a :: []) X.env = (false, eval a X.env) :: starEach [] X.env := by rfl) (hpl : (backTo pos (starEach [] X.env)).any (·.1) = false := by rfl) :
    LX X env (.Call (.Name "list" np) [a] [] pos) (ls (it Ea)) e' (fun k => f fun x p => k (g x) p) :=
  lx_y1n (E := Ea) (g := g) call_list_of hm PyProof.Rows.boot_list ha hG (fun K F H fp v x Q hK s r q => by
    obtain ⟨p, vs, fps, rfl, h1, h2⟩ := hv.view s r
    exact ⟨p, vs, rfl, .inl (by rw [← hK]; exact h1), fun l hl => q l vs hl h2.zero.2⟩) hg (by decide) (by decide) he hpl
end
end
end Z

set_option Elab.async false
set_option linter.all false
set_option maxRecDepth 100000
namespace Z
open PySem PySem.Spec PyProof.Rows L2

/-! ### kinds of data: depth, equality, order -/
structure Dt {τ : Type} (E : Enc τ) (n : Nat) : Prop where
  lay : ∀ x, (E.enc x).canLay0 = true
  dep : ∀ x, (E.enc x).depth ≤ n
theorem Dt.mono {τ : Type} {E : Enc τ} {n m : Nat} (h : Dt E n) (l : n ≤ m) : Dt E m := ⟨h.lay, fun x => Nat.le_trans (h.dep x) l⟩
theorem canLayAll_of : ∀ {ds : List PyData}, (∀ d ∈ ds, d.canLay0 = true) → PyData.canLayAll0 ds = true
  | [], _ => rfl
  | d :: ds, h => by
    unfold PyData.canLayAll0
    rw [h d List.mem_cons_self, canLayAll_of fun e m => h e (List.mem_cons_of_mem _ m)]; rfl
theorem depthAll_of : ∀ {ds : List PyData} {n : Nat}, (∀ d ∈ ds, d.depth ≤ n) → PyData.depthAll ds ≤ n
  | [], n, _ => by simp [PyData.depthAll]
  | d :: ds, n, h => by
    unfold PyData.depthAll
    have h1 := h d List.mem_cons_self
    have h2 := depthAll_of (ds := ds) (n := n) fun e m => h e (List.mem_cons_of_mem _ m)
    omega
theorem dtI : Dt eI 0 := ⟨fun _ => rfl, fun _ => by simp [eI, PyData.depth]⟩
theorem dtB : Dt eB 0 := ⟨fun _ => rfl, fun _ => by simp [eB, PyData.depth]⟩
theorem dtN : Dt eN 0 := ⟨fun _ => rfl, fun _ => by simp [eN, PyData.depth]⟩
theorem dtL {τ : Type} {E : Enc τ} {n : Nat} (h : Dt E n) : Dt (eL E) (n + 1) := ⟨fun x => by
  show PyData.canLay0 (.list _) = true
  rw [PyData.canLay0]
  exact canLayAll_of fun d m => by obtain ⟨y, _, rfl⟩ := List.mem_map.mp m; exact h.lay y, fun x => by
  show PyData.depth (.list _) ≤ n + 1
  rw [PyData.depth]
  have := depthAll_of (ds := x.map E.enc) (n := n) fun d m => by obtain ⟨y, _, rfl⟩ := List.mem_map.mp m; exact h.dep y
  omega⟩
theorem dtV {τ : Type} {E : Enc τ} {n : Nat} (h : Dt E n) : Dt (eV E) (n + 1) := ⟨fun x => by
  show PyData.canLay0 (.tuple _) = true
  rw [PyData.canLay0]
  exact canLayAll_of fun d m => by obtain ⟨y, _, rfl⟩ := List.mem_map.mp m; exact h.lay y, fun x => by
  show PyData.depth (.tuple _) ≤ n + 1
  rw [PyData.depth]
  have := depthAll_of (ds := x.map E.enc) (n := n) fun d m => by obtain ⟨y, _, rfl⟩ := List.mem_map.mp m; exact h.dep y
  omega⟩
theorem dt_tup {τ : Type} {E : Enc τ} {n : Nat} {ds : τ → List PyData} (he : ∀ x, E.enc x = .tuple (ds x)) (h1 : ∀ x, ∀ d ∈ ds x, d.canLay0 = true) (h2 : ∀ x, ∀ d ∈ ds x, d.depth ≤ n) : Dt E (n + 1) := ⟨fun x => by
  rw [he, PyData.canLay0]; exact canLayAll_of (h1 x), fun x => by
  rw [he, PyData.depth]
  have := depthAll_of (h2 x)
  omega⟩
section
variable {α β γ δ : Type} {A : Enc α} {B : Enc β} {G : Enc γ} {D : Enc δ} {n : Nat}
theorem dtT2 (a : Dt A n) (b : Dt B n) : Dt (eT2 A B) (n + 1) := dt_tup (ds := fun p => [A.enc p.1, B.enc p.2]) (fun _ => rfl) (fun x d m => by simp at m; rcases m with rfl | rfl; exact a.lay _; exact b.lay _) (fun x d m => by simp at m; rcases m with rfl | rfl; exact a.dep _; exact b.dep _)
theorem dtT3 (a : Dt A n) (b : Dt B n) (g : Dt G n) : Dt (eT3 A B G) (n + 1) := dt_tup (ds := fun p => [A.enc p.1, B.enc p.2.1, G.enc p.2.2]) (fun _ => rfl) (fun x d m => by simp at m; rcases m with rfl | rfl | rfl; exact a.lay _; exact b.lay _; exact g.lay _) (fun x d m => by simp at m; rcases m with rfl | rfl | rfl; exact a.dep _; exact b.dep _; exact g.dep _)
theorem dtT4 (a : Dt A n) (b : Dt B n) (g : Dt G n) (d4 : Dt D n) : Dt (eT4 A B G D) (n + 1) := dt_tup (ds := fun p => [A.enc p.1, B.enc p.2.1, G.enc p.2.2.1, D.enc p.2.2.2]) (fun _ => rfl) (fun x d m => by simp at m; rcases m with rfl | rfl | rfl | rfl; exact a.lay _; exact b.lay _; exact g.lay _; exact d4.lay _) (fun x d m => by simp at m; rcases m with rfl | rfl | rfl | rfl; exact a.dep _; exact b.dep _; exact g.dep _; exact d4.dep _)
end
/-- == of this kind is equality -/
structure Ev {τ : Type} [DecidableEq τ] (E : Enc τ) : Prop where
  eq : ∀ x y, PyData.eqv (E.enc x) (E.enc y) = decide (x = y)
theorem evI : Ev eI := ⟨fun x y => by simp [eI, PyData.eqv, Bool.beq_eq_decide_eq]⟩
theorem evB : Ev eB := ⟨fun x y => by simp [eB, PyData.eqv, Bool.beq_eq_decide_eq]⟩
theorem evN : Ev eN := ⟨fun x y => by simp [eN, PyData.eqv]⟩
theorem evS : Ev eS := ⟨fun x y => by simp only [eS, PyData.eqv]; exact Bool.beq_eq_decide_eq x y⟩
theorem eqvAll_map {τ : Type} [DecidableEq τ] {E : Enc τ} (h : Ev E) : ∀ (xs ys : List τ), PyData.eqvAll (xs.map E.enc) (ys.map E.enc) = decide (xs = ys)
  | [], [] => by simp [PyData.eqvAll]
  | [], _ :: _ => by simp [PyData.eqvAll]
  | _ :: _, [] => by simp [PyData.eqvAll]
  | x :: xs, y :: ys => by
    simp only [List.map_cons, PyData.eqvAll, h.eq, eqvAll_map h xs ys, List.cons.injEq, Bool.decide_and]
theorem evL {τ : Type} [DecidableEq τ] {E : Enc τ} (h : Ev E) : Ev (eL E) := ⟨fun x y => by simp only [eL, PyData.eqv]; exact eqvAll_map h x y⟩
theorem evV {τ : Type} [DecidableEq τ] {E : Enc τ} (h : Ev E) : Ev (eV E) := ⟨fun x y => by simp only [eV, PyData.eqv]; exact eqvAll_map h x y⟩
section
variable {α β γ δ : Type} [DecidableEq α] [DecidableEq β] [DecidableEq γ] [DecidableEq δ] {A : Enc α} {B : Enc β} {G : Enc γ} {D : Enc δ}
theorem evT2 (a : Ev A) (b : Ev B) : Ev (eT2 A B) := ⟨fun x y => by
  obtain ⟨x1, x2⟩ := x
  obtain ⟨y1, y2⟩ := y
  simp only [eT2, PyData.eqv, PyData.eqvAll, a.eq, b.eq, Bool.and_true, Prod.mk.injEq, Bool.decide_and]⟩
theorem evT3 (a : Ev A) (b : Ev B) (g : Ev G) : Ev (eT3 A B G) := ⟨fun x y => by
  obtain ⟨x1, x2, x3⟩ := x
  obtain ⟨y1, y2, y3⟩ := y
  simp only [eT3, PyData.eqv, PyData.eqvAll, a.eq, b.eq, g.eq, Bool.and_true, Prod.mk.injEq, Bool.decide_and]⟩
theorem evT4 (a : Ev A) (b : Ev B) (g : Ev G) (d : Ev D) : Ev (eT4 A B G D) := ⟨fun x y => by
  obtain ⟨x1, x2, x3, x4⟩ := x
  obtain ⟨y1, y2, y3, y4⟩ := y
  simp only [eT4, PyData.eqv, PyData.eqvAll, a.eq, b.eq, g.eq, d.eq, Bool.and_true, Prod.mk.injEq, Bool.decide_and]⟩
end
/-- an order: < of this kind -/
structure Od {τ : Type} (E : Enc τ) (lt : τ → τ → Bool) : Prop where
  lt : ∀ x y, PySem.W.dataLt (E.enc x) (E.enc y) = lt x y
  al : ∀ x y, PySem.W.alike (E.enc x) (E.enc y) = true
  nn : ∀ x, E.enc x ≠ .none
def ltI (x y : Int) : Bool := decide (x < y)
theorem odI : Od eI ltI := ⟨fun x y => by
  have h := PySem.W.minD_ints x [y]
  simp only [PySem.W.minD, List.map_cons, List.map_nil, List.foldl_cons, List.foldl_nil] at h
  have h2 := PySem.W.minD_ints y [x]
  simp only [PySem.W.minD, List.map_cons, List.map_nil, List.foldl_cons, List.foldl_nil] at h2
  show PySem.W.dataLt (.int x) (.int y) = _
  unfold ltI
  by_cases c : x < y
  · rw [decide_eq_true c]
    cases e : PySem.W.dataLt (.int x) (.int y) with
    | true => rfl
    | false =>
      rw [e] at h2
      simp at h2; omega
  · rw [decide_eq_false c]
    cases e : PySem.W.dataLt (.int x) (.int y) with
    | false => rfl
    | true =>
      rw [e] at h2
      simp at h2
      by_cases c2 : x = y
      · subst c2
        unfold PySem.W.dataLt at e
        rw [PyProof.Rows.lex_irrefl] at e
        cases e
      · omega, fun _ _ => rfl, fun _ h => by cases h⟩
section
variable {α β γ δ : Type} [DecidableEq α] [DecidableEq β] [DecidableEq γ] {A : Enc α} {B : Enc β} {G : Enc γ} {la : α → α → Bool} {lb : β → β → Bool} {lg : γ → γ → Bool}
theorem lt_cons {x y : PyData} {xs ys : List PyData} (h : PySem.W.alike x y = true) : PySem.W.dataLt (.tuple (x :: xs)) (.tuple (y :: ys)) = if PyData.eqv x y = true then PySem.W.dataLt (.tuple xs) (.tuple ys) else PySem.W.dataLt x y := by
  rw [PySem.W.dataLt_tuple, PySem.W.dataLt_tuple]
  cases e : PyData.eqv x y with
  | true => rw [if_pos rfl]; exact PySem.W.dataLt_all_yes h e
  | false => rw [if_neg Bool.false_ne_true]; exact PySem.W.dataLt_all_no h e
def lt2 (la : α → α → Bool) (lb : β → β → Bool) (x y : α × β) : Bool := if x.1 = y.1 then lb x.2 y.2 else la x.1 y.1
def lt3 (la : α → α → Bool) (lb : β → β → Bool) (lg : γ → γ → Bool) (x y : α × β × γ) : Bool := if x.1 = y.1 then (if x.2.1 = y.2.1 then lg x.2.2 y.2.2 else lb x.2.1 y.2.1) else la x.1 y.1
theorem lt_one {x y : PyData} (h : PySem.W.alike x y = true) : PySem.W.dataLt (.tuple [x]) (.tuple [y]) = PySem.W.dataLt x y := by
  rw [lt_cons h]
  cases e : PyData.eqv x y with
  | false => rw [if_neg Bool.false_ne_true]
  | true =>
    rw [if_pos rfl]
    have := (PySem.W.toks_eqv x y h).1 e
    unfold PySem.W.dataLt
    rw [this, PyProof.Rows.lex_irrefl, PyProof.Rows.lex_irrefl]
theorem odT2 (ea : Ev A) (a : Od A la) (b : Od B lb) : Od (eT2 A B) (lt2 la lb) := ⟨fun x y => by
  obtain ⟨x1, x2⟩ := x
  obtain ⟨y1, y2⟩ := y
  show PySem.W.dataLt (.tuple [A.enc x1, B.enc x2]) (.tuple [A.enc y1, B.enc y2]) = _
  rw [lt_cons (a.al _ _), lt_one (b.al _ _), ea.eq, a.lt, b.lt]
  unfold lt2
  simp only [decide_eq_true_eq], fun x y => by
  obtain ⟨x1, x2⟩ := x
  obtain ⟨y1, y2⟩ := y
  show PySem.W.alike (.tuple [A.enc x1, B.enc x2]) (.tuple [A.enc y1, B.enc y2]) = true
  simp only [PySem.W.alike, PySem.W.alikeAll, a.al, b.al, Bool.and_self], fun _ h => by cases h⟩
theorem odT3 (ea : Ev A) (eb : Ev B) (a : Od A la) (b : Od B lb) (g : Od G lg) : Od (eT3 A B G) (lt3 la lb lg) := ⟨fun x y => by
  obtain ⟨x1, x2, x3⟩ := x
  obtain ⟨y1, y2, y3⟩ := y
  show PySem.W.dataLt (.tuple [A.enc x1, B.enc x2, G.enc x3]) (.tuple [A.enc y1, B.enc y2, G.enc y3]) = _
  rw [lt_cons (a.al _ _), lt_cons (b.al _ _), lt_one (g.al _ _), ea.eq, eb.eq, a.lt, b.lt, g.lt]
  unfold lt3
  simp only [decide_eq_true_eq], fun x y => by
  obtain ⟨x1, x2, x3⟩ := x
  obtain ⟨y1, y2, y3⟩ := y
  show PySem.W.alike (.tuple [A.enc x1, B.enc x2, G.enc x3]) (.tuple [A.enc y1, B.enc y2, G.enc y3]) = true
  simp only [PySem.W.alike, PySem.W.alikeAll, a.al, b.al, g.al, Bool.and_self], fun _ h => by cases h⟩
end

/-! ### data as the layer's rules read them -/
mutual
theorem Rep.dp {K : Fg} {F H : Hp} (s : Same F H) : ∀ {v : V} {d : PyData}, Rep K F v d → d.canLay0 = true → Dp K H v d
  | _, _, .non, _ => .non
  | _, _, .bl b, _ => .bl b
  | _, _, .int i, _ => .int i
  | _, _, .str x, _ => .str x
  | _, _, .lst h r, c => .lst (SqL.of (s _ _ h)) (RepAll.dp s r (by rwa [PyData.canLay0] at c))
  | _, _, .tup h r, c => .tup (same_sqT s h) (RepAll.dp s r (by rwa [PyData.canLay0] at c))
  | _, _, .dK h r, c => by rw [PyData.canLay0] at c; cases c
  | _, _, .dT h r, c => by rw [PyData.canLay0] at c; cases c
theorem RepAll.dp {K : Fg} {F H : Hp} (s : Same F H) : ∀ {vs : List V} {ds : List PyData}, RepAll K F vs ds → PyData.canLayAll0 ds = true → DpAll K H vs ds
  | _, _, .nil, _ => .nil
  | _, _, .cons h r, c => by
    rw [PyData.canLayAll0] at c
    have c' := Bool.and_eq_true_iff.mp c
    exact .cons (Rep.dp s h c'.1) (RepAll.dp s r c'.2)
end
structure Dv {τ : Type} (S : Stor τ) (E : Enc τ) : Prop where
  dp : ∀ {K : Fg} {F H : Hp} {fp : List Addr} {v : V} {x : τ}, Same F H → (E.enc x).canLay0 = true → S.rel K F H fp v x → Dp K H v (E.enc x)
section
variable {τ τ1 τ2 α β : Type} {S : Stor τ} {S1 : Stor τ1} {S2 : Stor τ2} {E : Enc τ} {E1 : Enc τ1} {E2 : Enc τ2}
theorem dv_it : Dv (it E) E := ⟨fun s c r => r.2.dp s c⟩
theorem RelAll.dps {K : Fg} {H : Hp} {R : List Addr → V → τ → Prop} : ∀ {fp : List Addr} {vs : List V} {xs : List τ}, (∀ fq v x, R fq v x → (E.enc x).canLay0 = true → Dp K H v (E.enc x)) → PyData.canLayAll0 (xs.map E.enc) = true → RelAll R fp vs xs → DpAll K H vs (xs.map E.enc)
  | _, _, _, _, _, .nil => .nil
  | _, _, _, f, c, .cons h r => by
    rw [List.map_cons, PyData.canLayAll0] at c
    have c' := Bool.and_eq_true_iff.mp c
    exact .cons (f _ _ _ h c'.1) (RelAll.dps f c'.2 r)
theorem dv_ls (d : Dv S E) : Dv (ls S) (eL E) := ⟨fun {K F H fp v x} s c r => by
  obtain ⟨p, vs, fps, rfl, h, ra, rfl⟩ := r
  have c' : PyData.canLayAll0 (x.map E.enc) = true := by
    have : PyData.canLay0 (.list (x.map E.enc)) = true := c
    rwa [PyData.canLay0] at this
  exact .lst (SqL.of h) (ra.dps (fun _ _ _ q c => d.dp s c q) c')⟩
theorem shaped_of {d : PyData} (h1 : d.canLay0 = true) (h2 : d.depth ≤ 64) : SeqAt.shaped d = true := by
  unfold SeqAt.shaped
  rw [h1, decide_eq_true h2]; rfl
variable {X : Cx} {Ω : Type} {env : Env} {nm : Str} {pos np : Pos} {a b : Expr} {P P1 P2 : Type} {G : Env → Prop} {G1 : Env → Prop} {G2 : P1 → Env → Prop} {e' : P → Env} {e1 : P1 → Env} {e2 : P1 → P2 → Env} {fa : (τ1 → P1 → Option Ω) → Option Ω} {fb : P1 → (τ2 → P2 → Option Ω) → Option Ω}
/-- == of data of two kinds -/
theorem lc_eqD {n m : Nat} (hu : X.A.units + 64 < cLine) (d1 : Dv S1 E1) (d2 : Dv S2 E2) (t1 : Dt E1 n) (t2 : Dt E2 m) (ha : LO X G1 env a S1 e1 fa) (hb : ∀ p1, LO X (G2 p1) (e1 p1) b S2 (e2 p1) (fb p1)) (g1 : ∀ p1 p2, G1 (e2 p1 p2)) (g2 : ∀ p1 p2, G2 p1 (e2 p1 p2)) (hn : n ≤ 64 := by decide) (hm : m ≤ 64 := by decide) :
    LC X env .Eq a b (fun p : P1 × P2 => e2 p.1 p.2) (fun k => fa fun x p1 => fb p1 fun y p2 => k (PyData.eqv (E1.enc x) (E2.enc y)) (p1, p2)) :=
  lc_cmp (op_eqD hu) ha hb g1 g2 fun K F H fp fq v u x y Q hK s r1 r2 q => by
    subst hK
    exact ⟨_, _, d1.dp s (t1.lay x) r1, d2.dp s (t2.lay y) r2, shaped_of (t1.lay x) (Nat.le_trans (t1.dep x) hn), shaped_of (t2.lay y) (Nat.le_trans (t2.dep y) hm), q⟩
theorem lc_neD {n m : Nat} (hu : X.A.units + 64 < cLine) (d1 : Dv S1 E1) (d2 : Dv S2 E2) (t1 : Dt E1 n) (t2 : Dt E2 m) (ha : LO X G1 env a S1 e1 fa) (hb : ∀ p1, LO X (G2 p1) (e1 p1) b S2 (e2 p1) (fb p1)) (g1 : ∀ p1 p2, G1 (e2 p1 p2)) (g2 : ∀ p1 p2, G2 p1 (e2 p1 p2)) (hn : n ≤ 64 := by decide) (hm : m ≤ 64 := by decide) :
    LC X env .NotEq a b (fun p : P1 × P2 => e2 p.1 p.2) (fun k => fa fun x p1 => fb p1 fun y p2 => k (!PyData.eqv (E1.enc x) (E2.enc y)) (p1, p2)) :=
  lc_cmp (op_neD hu) ha hb g1 g2 fun K F H fp fq v u x y Q hK s r1 r2 q => by
    subst hK
    exact ⟨_, _, d1.dp s (t1.lay x) r1, d2.dp s (t2.lay y) r2, shaped_of (t1.lay x) (Nat.le_trans (t1.dep x) hn), shaped_of (t2.lay y) (Nat.le_trans (t2.dep y) hm), q⟩
/-- .. of any data, with a check -/
theorem lc_eqC (hu : X.A.units + 64 < cLine) (d1 : Dv S1 E1) (d2 : Dv S2 E2) (ha : LO X G1 env a S1 e1 fa) (hb : ∀ p1, LO X (G2 p1) (e1 p1) b S2 (e2 p1) (fb p1)) (g1 : ∀ p1 p2, G1 (e2 p1 p2)) (g2 : ∀ p1 p2, G2 p1 (e2 p1 p2)) :
    LC X env .Eq a b (fun p : P1 × P2 => e2 p.1 p.2) (fun k => fa fun x p1 => fb p1 fun y p2 => ck (SeqAt.shaped (E1.enc x) && SeqAt.shaped (E2.enc y)) (k (PyData.eqv (E1.enc x) (E2.enc y)) (p1, p2))) :=
  lc_cmpC (c := fun x y => SeqAt.shaped (E1.enc x) && SeqAt.shaped (E2.enc y)) (op_eqD hu) ha hb g1 g2 fun K F H fp fq v u x y Q hK s hc r1 r2 q => by
    subst hK
    obtain ⟨c1, c2⟩ := Bool.and_eq_true_iff.mp hc
    exact ⟨_, _, d1.dp s (SeqAt.canLay_of_shaped c1) r1, d2.dp s (SeqAt.canLay_of_shaped c2) r2, c1, c2, q⟩
theorem lc_neC (hu : X.A.units + 64 < cLine) (d1 : Dv S1 E1) (d2 : Dv S2 E2) (ha : LO X G1 env a S1 e1 fa) (hb : ∀ p1, LO X (G2 p1) (e1 p1) b S2 (e2 p1) (fb p1)) (g1 : ∀ p1 p2, G1 (e2 p1 p2)) (g2 : ∀ p1 p2, G2 p1 (e2 p1 p2)) :
    LC X env .NotEq a b (fun p : P1 × P2 => e2 p.1 p.2) (fun k => fa fun x p1 => fb p1 fun y p2 => ck (SeqAt.shaped (E1.enc x) && SeqAt.shaped (E2.enc y)) (k (!PyData.eqv (E1.enc x) (E2.enc y)) (p1, p2))) :=
  lc_cmpC (c := fun x y => SeqAt.shaped (E1.enc x) && SeqAt.shaped (E2.enc y)) (op_neD hu) ha hb g1 g2 fun K F H fp fq v u x y Q hK s hc r1 r2 q => by
    subst hK
    obtain ⟨c1, c2⟩ := Bool.and_eq_true_iff.mp hc
    exact ⟨_, _, d1.dp s (SeqAt.canLay_of_shaped c1) r1, d2.dp s (SeqAt.canLay_of_shaped c2) r2, c1, c2, q⟩
theorem lc_eqT [DecidableEq τ1] {S2 : Stor τ1} {fb : P1 → (τ1 → P2 → Option Ω) → Option Ω} {n : Nat} (hu : X.A.units + 64 < cLine) (d1 : Dv S1 E1) (d2 : Dv S2 E1) (t : Dt E1 n) (ev : Ev E1) (ha : LO X G1 env a S1 e1 fa) (hb : ∀ p1, LO X (G2 p1) (e1 p1) b S2 (e2 p1) (fb p1)) (g1 : ∀ p1 p2, G1 (e2 p1 p2)) (g2 : ∀ p1 p2, G2 p1 (e2 p1 p2)) (hn : n ≤ 64 := by decide) :
    LC X env .Eq a b (fun p : P1 × P2 => e2 p.1 p.2) (fun k => fa fun x p1 => fb p1 fun y p2 => k (decide (x = y)) (p1, p2)) :=
  lc_cmp (op_eqD hu) ha hb g1 g2 fun K F H fp fq v u x y Q hK s r1 r2 q => by
    subst hK
    exact ⟨_, _, d1.dp s (t.lay x) r1, d2.dp s (t.lay y) r2, shaped_of (t.lay x) (Nat.le_trans (t.dep x) hn), shaped_of (t.lay y) (Nat.le_trans (t.dep y) hn), by rw [ev.eq]; exact q⟩
theorem lc_neT [DecidableEq τ1] {S2 : Stor τ1} {fb : P1 → (τ1 → P2 → Option Ω) → Option Ω} {n : Nat} (hu : X.A.units + 64 < cLine) (d1 : Dv S1 E1) (d2 : Dv S2 E1) (t : Dt E1 n) (ev : Ev E1) (ha : LO X G1 env a S1 e1 fa) (hb : ∀ p1, LO X (G2 p1) (e1 p1) b S2 (e2 p1) (fb p1)) (g1 : ∀ p1 p2, G1 (e2 p1 p2)) (g2 : ∀ p1 p2, G2 p1 (e2 p1 p2)) (hn : n ≤ 64 := by decide) :
    LC X env .NotEq a b (fun p : P1 × P2 => e2 p.1 p.2) (fun k => fa fun x p1 => fb p1 fun y p2 => k (!decide (x = y)) (p1, p2)) :=
  lc_cmp (op_neD hu) ha hb g1 g2 fun K F H fp fq v u x y Q hK s r1 r2 q => by
    subst hK
    exact ⟨_, _, d1.dp s (t.lay x) r1, d2.dp s (t.lay y) r2, shaped_of (t.lay x) (Nat.le_trans (t.dep x) hn), shaped_of (t.lay y) (Nat.le_trans (t.dep y) hn), by rw [ev.eq]; exact q⟩
/-- is None, is not None -/
def isNone (d : PyData) : Bool := match d with
  | .none => true
  | _ => false
theorem enc_none {v : V} {K : Fg} {F : Hp} {d : PyData} (h : Rep K F v d) : decide (v = .non) = isNone d := by
  cases h <;> simp [isNone]
theorem lc_isN {fp1 : (τ1 → P1 → Option Ω) → Option Ω} {j : Nat} {cp : Pos} (ha : LX X env a (it E1) e1 fp1) : LC X env .Is a (.Constant .none j cp) (fun p : P1 × Unit => e1 p.1) (fun k => fp1 fun x p1 => k (isNone (E1.enc x)) (p1, ())) :=
  lc_cmp (g := fun x _ => isNone (E1.enc x)) op_isN (lo_of ha) (fun p1 => lo_of (lx_non (env := e1 p1))) (fun _ _ => trivial) (fun _ _ => trivial) fun K F H fp fq v u x y Q hK s r1 r2 q => by
    obtain ⟨_, r1⟩ := r1
    obtain ⟨_, r2⟩ := r2
    have r2' : Rep K F u .none := r2
    cases r2'
    exact ⟨rfl, by rw [enc_none r1]; exact q⟩
theorem lc_notN {fp1 : (τ1 → P1 → Option Ω) → Option Ω} {j : Nat} {cp : Pos} (ha : LX X env a (it E1) e1 fp1) : LC X env .IsNot a (.Constant .none j cp) (fun p : P1 × Unit => e1 p.1) (fun k => fp1 fun x p1 => k (!isNone (E1.enc x)) (p1, ())) :=
  lc_cmp (g := fun x _ => !isNone (E1.enc x)) op_notN (lo_of ha) (fun p1 => lo_of (lx_non (env := e1 p1))) (fun _ _ => trivial) (fun _ _ => trivial) fun K F H fp fq v u x y Q hK s r1 r2 q => by
    obtain ⟨_, r1⟩ := r1
    obtain ⟨_, r2⟩ := r2
    have r2' : Rep K F u .none := r2
    cases r2'
    exact ⟨rfl, by rw [enc_none r1]; exact q⟩

/-! ### min, max, sorted of lists of data -/
def rMinD (K : Fg) : List V → Hp → VK → Prop := fun vs H Q => ∃ (p : Addr) (its : List V) (x : PyData) (xs : List PyData), vs = [.ref p] ∧ SqL K H p its ∧ DpAll K H its (x :: xs) ∧ PyData.canLayAll0 (x :: xs) = true ∧ PySem.W.AlikeAll (x :: xs) ∧ PyData.depthAll (x :: xs) ≤ 60 ∧
  ∀ (i : Nat) (v : V), its[i]? = some v → (x :: xs)[i]? = some (PySem.W.minD x xs) → Q v H
def rMaxD (K : Fg) : List V → Hp → VK → Prop := fun vs H Q => ∃ (p : Addr) (its : List V) (x : PyData) (xs : List PyData), vs = [.ref p] ∧ SqL K H p its ∧ DpAll K H its (x :: xs) ∧ PyData.canLayAll0 (x :: xs) = true ∧ PySem.W.AlikeAll (x :: xs) ∧ PyData.depthAll (x :: xs) ≤ 60 ∧
  ∀ (i : Nat) (v : V), its[i]? = some v → (x :: xs)[i]? = some (PySem.W.maxD x xs) → Q v H
theorem canLay_get : ∀ {ds : List PyData} {i : Nat} {d : PyData}, PyData.canLayAll0 ds = true → ds[i]? = some d → d.canLay0 = true
  | [], _, _, _, e => by simp at e
  | d :: ds, 0, _, c, e => by
    rw [PyData.canLayAll0] at c
    simp at e; subst e
    exact (Bool.and_eq_true_iff.mp c).1
  | d :: ds, i + 1, _, c, e => by
    rw [PyData.canLayAll0] at c
    exact canLay_get (Bool.and_eq_true_iff.mp c).2 (by simpa using e)
theorem readsAll_get {h : Heap} : ∀ {us : List Value} {ds : List PyData} {as : List Addr} {i : Nat} {u : Value}, ReadsAll h us ds as → us[i]? = some u → ∃ d bs, ds[i]? = some d ∧ Reads h u d bs
  | _, _, _, _, _, .nil, e => by simp at e
  | _, _, _, 0, _, .cons r _, e => by simp at e; subst e; exact ⟨_, _, rfl, r⟩
  | _, _, _, i + 1, _, .cons _ r, e => by
    obtain ⟨d, bs, h1, h2⟩ := readsAll_get (i := i) r (by simpa using e)
    exact ⟨d, bs, by simpa using h1, h2⟩
theorem cr_minD (hc : X.calm = true) (hu : X.A.units + 64 < cLine) : CallR X (.builtin "min") (rMinD X.K) := by
  intro pins s σ H vs us Q I r h
  obtain ⟨p, its, x, xs, rfl, hs, hd, hl0, hal, hdep, q⟩ := h
  obtain ⟨uts, rv, pl, hz⟩ := I.list hs
  rw [Vals.ref1 r]
  obtain ⟨as, hr⟩ := Dp.readsAll I (x :: xs) its uts hd rv
  refine PySem.W.min_list_data (I.ok.hd hc) pl.isList hr hal (by omega) fun i u h' tk bs hi hr' hk => ?_
  have hi' : uts[i]? = some u := by simpa using hi
  obtain ⟨d, cs, e1, r1⟩ := readsAll_get hr hi'
  have r1' := PyProof.Rows.Reads.keeps hk r1
  have e2 : d = PySem.W.minD x xs := PySem.SeqAt.Reads.unique d _ u _ _ (canLay_get hl0 e1) r1' hr'
  have hlen := rv.length
  have hi2 : i < its.length := by
    have := (List.getElem?_eq_some_iff.mp hi').1
    omega
  obtain ⟨w, hw, rw'⟩ := Vals.get rv (List.getElem?_eq_getElem hi2)
  rw [hi'] at hw; cases hw
  exact ⟨_, H, I.kept hk, rw', q i _ (List.getElem?_eq_getElem hi2) (by rw [e1, e2])⟩
theorem cr_maxD (hc : X.calm = true) (hu : X.A.units + 64 < cLine) : CallR X (.builtin "max") (rMaxD X.K) := by
  intro pins s σ H vs us Q I r h
  obtain ⟨p, its, x, xs, rfl, hs, hd, hl0, hal, hdep, q⟩ := h
  obtain ⟨uts, rv, pl, hz⟩ := I.list hs
  rw [Vals.ref1 r]
  obtain ⟨as, hr⟩ := Dp.readsAll I (x :: xs) its uts hd rv
  refine PySem.W.max_list_data (I.ok.hd hc) pl.isList hr hal (by omega) fun i u h' tk bs hi hr' hk => ?_
  have hi' : uts[i]? = some u := by simpa using hi
  obtain ⟨d, cs, e1, r1⟩ := readsAll_get hr hi'
  have r1' := PyProof.Rows.Reads.keeps hk r1
  have e2 : d = PySem.W.maxD x xs := PySem.SeqAt.Reads.unique d _ u _ _ (canLay_get hl0 e1) r1' hr'
  have hlen := rv.length
  have hi2 : i < its.length := by
    have := (List.getElem?_eq_some_iff.mp hi').1
    omega
  obtain ⟨w, hw, rw'⟩ := Vals.get rv (List.getElem?_eq_getElem hi2)
  rw [hi'] at hw; cases hw
  exact ⟨_, H, I.kept hk, rw', q i _ (List.getElem?_eq_getElem hi2) (by rw [e1, e2])⟩
/-- the first least, the first greatest, by < -/
def minB {α : Type} (lt : α → α → Bool) : List α → Option α
  | [] => none
  | x :: xs => some (xs.foldl (fun a y => if lt y a = true then y else a) x)
def maxB {α : Type} (lt : α → α → Bool) : List α → Option α
  | [] => none
  | x :: xs => some (xs.foldl (fun a y => if lt a y = true then y else a) x)
theorem minD_enc {E : Enc α} {lt : α → α → Bool} (od : Od E lt) : ∀ (xs : List α) (x : α), PySem.W.minD (E.enc x) (xs.map E.enc) = E.enc (xs.foldl (fun a y => if lt y a = true then y else a) x)
  | [], x => rfl
  | y :: xs, x => by
    show List.foldl _ (if PySem.W.dataLt (E.enc y) (E.enc x) = true then E.enc y else E.enc x) (xs.map E.enc) = _
    rw [od.lt, List.foldl_cons]
    have := minD_enc od xs (if lt y x = true then y else x)
    unfold PySem.W.minD at this
    rw [← this]
    congr 1
    cases lt y x <;> simp
theorem maxD_enc {E : Enc α} {lt : α → α → Bool} (od : Od E lt) : ∀ (xs : List α) (x : α), PySem.W.maxD (E.enc x) (xs.map E.enc) = E.enc (xs.foldl (fun a y => if lt a y = true then y else a) x)
  | [], x => rfl
  | y :: xs, x => by
    show List.foldl _ (if PySem.W.dataLt (E.enc x) (E.enc y) = true then E.enc y else E.enc x) (xs.map E.enc) = _
    rw [od.lt, List.foldl_cons]
    have := maxD_enc od xs (if lt x y = true then y else x)
    unfold PySem.W.maxD at this
    rw [← this]
    congr 1
    cases lt x y <;> simp
theorem od_all {E : Enc α} {lt : α → α → Bool} (od : Od E lt) (xs : List α) : PySem.W.AlikeAll (xs.map E.enc) := ⟨fun x hx y hy => by
  obtain ⟨a, _, rfl⟩ := List.mem_map.mp hx
  obtain ⟨b, _, rfl⟩ := List.mem_map.mp hy
  exact od.al a b, fun x hx => by
  obtain ⟨a, _, rfl⟩ := List.mem_map.mp hx
  exact od.nn a⟩
section
variable {E : Enc α} {lt : α → α → Bool} {g : τ → List α} {f : (τ → P → Option Ω) → Option Ω} {n : Nat}
theorem dts {E : Enc α} (dt : Dt E n) (xs : List α) : PyData.canLayAll0 (xs.map E.enc) = true ∧ PyData.depthAll (xs.map E.enc) ≤ n :=
  ⟨canLayAll_of fun d m => by obtain ⟨y, _, rfl⟩ := List.mem_map.mp m; exact dt.lay y, depthAll_of fun d m => by obtain ⟨y, _, rfl⟩ := List.mem_map.mp m; exact dt.dep y⟩
theorem lx_minD (hc : X.calm = true) (hu : X.A.units + 64 < cLine) (od : Od E lt) (dt : Dt E n) (hv : LVw S (it E) g) (hm : X.mg "min" = none) (ha : LO X G env a S e' f) (hG : ∀ p, G (e' p)) (hn : n ≤ 60 := by decide) (hg : Gl X "min" := by rfl) (he : starEach (a :: []) X.env = (false, eval a X.env) :: starEach [] X.env := by rfl) (hpl : (backTo pos (starEach [] X.env)).any (·.1) = false := by rfl) :
    LX X env (.Call (.Name "min" np) [a] [] pos) (it E) e' (fun k => f fun x p => (minB lt (g x)).bind fun y => k y p) :=
  lx_b1 (E := E) (g := fun x : τ => minB lt (g x)) (cr_minD hc hu) hm boot_min ha hG (fun K F H fp v x y Q hK s hy r q => by
    subst hK
    obtain ⟨p, vs, fps, rfl, h1, h2⟩ := hv.view s r
    have rp := h2.zero.2
    cases hgx : g x with
    | nil => rw [hgx] at hy; cases hy
    | cons z zs =>
      rw [hgx] at hy rp
      have hy' : y = zs.foldl (fun a y => if lt y a = true then y else a) z := (Option.some.inj hy).symm
      have hd := dts dt (z :: zs)
      refine ⟨p, vs, E.enc z, zs.map E.enc, rfl, h1, rp.dp s hd.1, hd.1, od_all od (z :: zs), Nat.le_trans hd.2 hn, fun i v hi hv => ?_⟩
      rw [minD_enc od, ← hy'] at hv
      obtain ⟨w, hw, rr⟩ := rp.get (i := i) (d := E.enc y) (by rw [← hv]; rfl)
      rw [hi] at hw; cases hw
      exact q _ rr) hg (by decide) (by decide) he hpl
theorem lx_maxD (hc : X.calm = true) (hu : X.A.units + 64 < cLine) (od : Od E lt) (dt : Dt E n) (hv : LVw S (it E) g) (hm : X.mg "max" = none) (ha : LO X G env a S e' f) (hG : ∀ p, G (e' p)) (hn : n ≤ 60 := by decide) (hg : Gl X "max" := by rfl) (he : starEach (a :: []) X.env = (false, eval a X.env) :: starEach [] X.env := by rfl) (hpl : (backTo pos (starEach [] X.env)).any (·.1) = false := by rfl) :
    LX X env (.Call (.Name "max" np) [a] [] pos) (it E) e' (fun k => f fun x p => (maxB lt (g x)).bind fun y => k y p) :=
  lx_b1 (E := E) (g := fun x : τ => maxB lt (g x)) (cr_maxD hc hu) hm boot_max ha hG (fun K F H fp v x y Q hK s hy r q => by
    subst hK
    obtain ⟨p, vs, fps, rfl, h1, h2⟩ := hv.view s r
    have rp := h2.zero.2
    cases hgx : g x with
    | nil => rw [hgx] at hy; cases hy
    | cons z zs =>
      rw [hgx] at hy rp
      have hy' : y = zs.foldl (fun a y => if lt a y = true then y else a) z := (Option.some.inj hy).symm
      have hd := dts dt (z :: zs)
      refine ⟨p, vs, E.enc z, zs.map E.enc, rfl, h1, rp.dp s hd.1, hd.1, od_all od (z :: zs), Nat.le_trans hd.2 hn, fun i v hi hv => ?_⟩
      rw [maxD_enc od, ← hy'] at hv
      obtain ⟨w, hw, rr⟩ := rp.get (i := i) (d := E.enc y) (by rw [← hv]; rfl)
      rw [hi] at hw; cases hw
      exact q _ rr) hg (by decide) (by decide) he hpl
end
end
end Z

set_option Elab.async false
set_option linter.all false
set_option maxRecDepth 100000
namespace Z
open PySem PySem.Spec PyProof.Rows L2

/-- a slice, as the layer cuts it -/
def cutL {α : Type} (xs : List α) (lo hi : Option Int) : List α := (xs.drop (HT.sIx xs.length 0 lo)).take (HT.sIx xs.length xs.length hi - HT.sIx xs.length 0 lo)
section
variable {X : Cx} {Ω : Type} {env : Env} {nm : Str} {pos np sp : Pos} {a b c : Expr} {P P1 P2 P3 : Type} {τ τ1 τ2 α β : Type} {S : Stor τ} {S1 : Stor τ1} {S2 : Stor τ2} {E : Enc α} {Eb : Enc β} {G : Env → Prop} {G1 : Env → Prop} {G2 : P1 → Env → Prop} {e' : P → Env} {e1 : P1 → Env} {e2 : P1 → P2 → Env} {e3 : P1 → P2 → P3 → Env}
  {fa : (τ1 → P1 → Option Ω) → Option Ω} {fb : P1 → (τ2 → P2 → Option Ω) → Option Ω} {g1 : τ1 → List α} {g2 : τ2 → List α}
/-- xs + ys -/
theorem lx_cat (hv1 : LVm S1 (it E) g1) (hv2 : LVm S2 (it E) g2) (ha : LO X G1 env a S1 e1 fa) (hb : ∀ p1, LO X (G2 p1) (e1 p1) b S2 (e2 p1) (fb p1)) (h1 : ∀ p1 p2, G1 (e2 p1 p2)) (h2 : ∀ p1 p2, G2 p1 (e2 p1 p2)) :
    LX X env (.BinOp a .Add b pos) (ls (it E)) (fun p : P1 × P2 => e2 p.1 p.2) (fun k => fa fun x p1 => fb p1 fun y p2 => ck (decide ((g1 x).length + (g2 y).length ≤ SZ)) (k (g1 x ++ g2 y) (p1, p2))) :=
  fun C F H σs es σ k ω Q hK hl h hk q => tE.of X (pe_op op_cat (peC X) (peC X)) (op2_run ha hb h1 h2 hK hl h hk fun x p1 y p2 v u F' H' fp fq hk' h' r1 r2 => by
    obtain ⟨hc, hk'⟩ := ck_some hk'
    obtain ⟨p, vs, fps, rfl, l1, ra⟩ := hv1.view h'.sF r1
    obtain ⟨p', ws, fqs, rfl, l2, rb⟩ := hv2.view h'.sF r2
    have hc' := of_decide_eq_true hc
    have n1 := ra.length
    have n2 := rb.length
    refine ⟨p, p', vs, ws, rfl, rfl, l1, l2, by rw [SZ_eq]; omega, fun t nt => ?_⟩
    refine q (g1 x ++ g2 y) (p1, p2) (.ref t) F' _ hk' (h'.newOw nt ⟨t, vs ++ ws, [], rfl, upd_same, ?_, rfl⟩)
    have := ra.zero.2.app rb.zero.2
    rw [← List.map_append] at this
    exact this.zero)
theorem RepAll.cut {K : Fg} {F : Hp} {vs : List V} {xs : List α} (lo hi : Option Int) (h : RepAll K F vs (xs.map E.enc)) : RepAll K F (cutV vs lo hi) ((cutL xs lo hi).map E.enc) := by
  have hl : vs.length = xs.length := by have := h.length; simpa using this
  unfold cutV cutL
  rw [hl, List.map_take, List.map_drop]
  exact (h.drop _).take _
/-- xs[i:j] -/
theorem lx_sl2 {fi : P1 → (Int → P2 → Option Ω) → Option Ω} {fj : P1 → P2 → (Int → P3 → Option Ω) → Option Ω} (hv : LVw S1 (it E) g1) (ha : LX X env a S1 e1 fa) (hi : ∀ p1, LX X (e1 p1) b (it eI) (e2 p1) (fi p1)) (hj : ∀ p1 p2, LX X (e2 p1 p2) c (it eI) (e3 p1 p2) (fj p1 p2)) :
    LX X env (.Subscript a (.Slice (some b) (some c) none sp) pos) (ls (it E)) (fun p : P1 × P2 × P3 => e3 p.1 p.2.1 p.2.2) (fun k => fa fun x p1 => fi p1 fun i p2 => fj p1 p2 fun j p3 => k (cutL (g1 x) (some i) (some j)) (p1, p2, p3)) :=
  fun C F H σs es σ k ω Q hK hl h hk q => tE.of X (pe_slice sl_list (peC X) (po_some (peC X)) (po_some (peC X))) (ha C F H σs es σ _ ω _ hK hl h hk fun x p1 v F1 H1 hk1 h1 => by
    refine hi p1 C F1 H1 (some v :: σs) (.st none τ1 S1 x :: es) σ _ ω _ hK (by simp [hl]) h1 hk1 fun i p2 u F2 H2 hk2 h2 => ?_
    have hu : u = .int i := by
      obtain ⟨v', fp, e1, r⟩ := h2.look (i := 0) rfl
      simp at e1; subst e1
      obtain ⟨_, r⟩ := r
      cases r; rfl
    subst hu
    refine ⟨i, rfl, hj p1 p2 C F2 H2 (some v :: σs) (.st none τ1 S1 x :: es) σ _ ω _ hK (by simp [hl]) h2.pop hk2 fun j p3 u F3 H3 hk3 h3 => ?_⟩
    have hu : u = .int j := by
      obtain ⟨v', fp, e1, r⟩ := h3.look (i := 0) rfl
      simp at e1; subst e1
      obtain ⟨_, r⟩ := r
      cases r; rfl
    subst hu
    obtain ⟨v', fp, ee, r⟩ := ER.look (i := 0) (show ER C F3 H3 (some v :: (σs ++ σ)) (.st none τ1 S1 x :: (es ++ e3 p1 p2 p3)) from h3.pop) rfl
    simp at ee; subst ee
    obtain ⟨p, vs, fps, rfl, l1, ra⟩ := hv.view h3.sF r
    refine ⟨j, rfl, p, vs, rfl, by rw [← hK]; exact l1, fun t nt => ?_⟩
    exact q _ (p1, p2, p3) (.ref t) F3 _ hk3 (ER.newOw (show ER C F3 H3 (σs ++ σ) (es ++ e3 p1 p2 p3) from h3.pop.pop) nt ⟨t, _, [], rfl, upd_same, (ra.zero.2.cut (some i) (some j)).zero, rfl⟩))
/-- xs[i:] -/
theorem lx_slL {fi : P1 → (Int → P2 → Option Ω) → Option Ω} (hv : LVw S1 (it E) g1) (ha : LX X env a S1 e1 fa) (hi : ∀ p1, LX X (e1 p1) b (it eI) (e2 p1) (fi p1)) :
    LX X env (.Subscript a (.Slice (some b) none none sp) pos) (ls (it E)) (fun p : P1 × P2 => e2 p.1 p.2) (fun k => fa fun x p1 => fi p1 fun i p2 => k (cutL (g1 x) (some i) none) (p1, p2)) :=
  fun C F H σs es σ k ω Q hK hl h hk q => tE.of X (pe_slice sl_list (peC X) (po_some (peC X)) po_none) (op2_run (lo_of ha) (fun p1 => lo_of (hi p1)) (fun _ _ => trivial) (fun _ _ => trivial) (R := fun x y H => ∃ i, y = .int i ∧ rSlL X.K x (some i) none H Q) hK hl h hk
    (fun x p1 i p2 v u F' H' fp fq hk' h' r1 r2 => by
      obtain ⟨_, r2⟩ := r2
      cases r2
      obtain ⟨p, vs, fps, rfl, l1, ra⟩ := hv.view h'.sF r1
      exact ⟨i, rfl, p, vs, rfl, by rw [← hK]; exact l1, fun t nt => q _ (p1, p2) (.ref t) F' _ hk' (h'.newOw nt ⟨t, _, [], rfl, upd_same, (ra.zero.2.cut (some i) none).zero, rfl⟩)⟩))
/-- xs[:j] -/
theorem lx_slR {fi : P1 → (Int → P2 → Option Ω) → Option Ω} (hv : LVw S1 (it E) g1) (ha : LX X env a S1 e1 fa) (hi : ∀ p1, LX X (e1 p1) b (it eI) (e2 p1) (fi p1)) :
    LX X env (.Subscript a (.Slice none (some b) none sp) pos) (ls (it E)) (fun p : P1 × P2 => e2 p.1 p.2) (fun k => fa fun x p1 => fi p1 fun j p2 => k (cutL (g1 x) none (some j)) (p1, p2)) :=
  fun C F H σs es σ k ω Q hK hl h hk q => tE.of X (pe_slice sl_list (peC X) po_none (po_some (peC X))) (op2_run (lo_of ha) (fun p1 => lo_of (hi p1)) (fun _ _ => trivial) (fun _ _ => trivial) (R := fun x y H => ∃ i, y = .int i ∧ rSlL X.K x none (some i) H Q) hK hl h hk
    (fun x p1 i p2 v u F' H' fp fq hk' h' r1 r2 => by
      obtain ⟨_, r2⟩ := r2
      cases r2
      obtain ⟨p, vs, fps, rfl, l1, ra⟩ := hv.view h'.sF r1
      exact ⟨i, rfl, p, vs, rfl, by rw [← hK]; exact l1, fun t nt => q _ (p1, p2) (.ref t) F' _ hk' (h'.newOw nt ⟨t, _, [], rfl, upd_same, (ra.zero.2.cut none (some i)).zero, rfl⟩)⟩))

/-! ### sorted -/
def rSortD (K : Fg) : List V → Hp → VK → Prop := fun vs H Q => ∃ (p : Addr) (its : List V) (ds : List PyData), vs = [.ref p] ∧ SqL K H p its ∧ DpAll K H its ds ∧ PySem.W.AllAlike ds ∧ PySem.W.Sortable ds ∧ (∀ d ∈ ds, d.depth ≤ 60) ∧
  ∀ t, H t = none → Q (.ref t) (upd H t (.lst (((its.zip ds).mergeSort (PySem.W.dataLe false Prod.snd)).map Prod.fst)))
theorem eachIs_zip {its : List V} {ds : List PyData} {us : List Value} (h : Vals its us) : its.length = ds.length → PySem.W.EachIs (fun (u : Value) (p : V × PyData) => RelV p.1 u) us (its.zip ds) := by
  intro hl
  induction h generalizing ds with
  | nil => cases ds with
    | nil => exact .nil
    | cons d ds => simp at hl
  | cons r t ih => cases ds with
    | nil => simp at hl
    | cons d ds => exact .cons r (ih (by simpa using hl))
theorem eachIs_reads {h : Heap} {its : List V} {ds : List PyData} {us : List Value} {as : List Addr} (hr : ReadsAll h us ds as) (hl : its.length = ds.length) : PySem.W.EachIs (fun (u : Value) (p : V × PyData) => ∃ as, Reads h u p.2 as) us (its.zip ds) := by
  induction us generalizing its ds as with
  | nil => cases hr; cases its with
    | nil => exact .nil
    | cons _ _ => simp at hl
  | cons u us ih =>
    cases hr with
    | cons r1 r2 => cases its with
      | nil => simp at hl
      | cons v its => exact .cons ⟨_, r1⟩ (ih r2 (by simpa using hl))
theorem eachIs_vals {out : List Value} {ps : List (V × PyData)} (h : PySem.W.EachIs (fun (u : Value) (p : V × PyData) => RelV p.1 u) out ps) : Vals (ps.map Prod.fst) out := by
  induction h with
  | nil => exact .nil
  | cons r _ ih => exact .cons r ih
theorem dpAll_length {K : Fg} {H : Hp} : ∀ {vs : List V} {ds : List PyData}, DpAll K H vs ds → vs.length = ds.length
  | _, _, .nil => rfl
  | _, _, .cons _ r => congrArg (· + 1) (dpAll_length r)
theorem cr_sortD (hu : X.A.units + 64 < cLine) : CallR X (.builtin "sorted") (rSortD X.K) := by
  intro pins s σ H vs us Q I r h
  obtain ⟨p, its, ds, rfl, hs, hd, hal, hso, hdep, q⟩ := h
  obtain ⟨uts, rv, pl, hz⟩ := I.list hs
  rw [Vals.ref1 r]
  obtain ⟨as, hr⟩ := Dp.readsAll I ds its uts hd rv
  have hl := dpAll_length hd
  have hm : (its.zip ds).map Prod.snd = ds := by rw [List.map_snd_zip (by omega)]
  refine PySem.W.sorted_data (enc := Prod.snd) (bs := its.zip ds) (R := fun (u : Value) (p : V × PyData) => RelV p.1 u) pl.isList (eachIs_zip rv hl) (eachIs_reads hr hl) (by rw [hm]; exact hal) (by rw [hm]; exact hso) (by rw [List.length_zip]; omega) (fun b hb => ?_) fun out ho eo => ?_
  · have : b.2 ∈ ds := by rw [← hm]; exact List.mem_map_of_mem hb
    have := hdep _ this
    omega
  · obtain ⟨ep, he'⟩ := PyProof.Rows.sortedAll_at s.heap uts out.toArray
    have rv' := eachIs_vals eo
    have hlen : (((its.zip ds).mergeSort (PySem.W.dataLe false Prod.snd)).map Prod.fst).length ≤ sizeLine := by
      rw [List.length_map, List.length_mergeSort, List.length_zip]; omega
    exact ⟨.ref _, upd H (s.heap.objs.size + 1) (.lst (((its.zip ds).mergeSort (PySem.W.dataLe false Prod.snd)).map Prod.fst)), I.laid (t' := s.toks) (fun _ _ => PyProof.Rows.sortedAll_old) (Nat.le_succ _) ⟨hlen, out, ep, rv', he'⟩, rfl, q _ (I.hok.fresh (Nat.le_succ _))⟩
/-- sorted by <, equal ones as they stood -/
def sortB {α : Type} (lt : α → α → Bool) (xs : List α) : List α := xs.mergeSort fun x y => !lt y x
/-- tuples that are not empty, or no tuples -/
structure So (E : Enc α) : Prop where
  so : (∀ x, ∃ y r, E.enc x = .tuple (y :: r)) ∨ ∀ x, E.enc x ≠ .none ∧ ∀ r, E.enc x ≠ .tuple r
theorem soI : So eI := ⟨.inr fun _ => ⟨(fun h => by cases h), (fun _ h => by cases h)⟩⟩
theorem soT2 {A : Enc α} {B : Enc β} : So (eT2 A B) := ⟨.inl fun _ => ⟨_, _, rfl⟩⟩
theorem soT3 {γ : Type} {A : Enc α} {B : Enc β} {D : Enc γ} : So (eT3 A B D) := ⟨.inl fun _ => ⟨_, _, rfl⟩⟩
theorem soT4 {γ δ : Type} {A : Enc α} {B : Enc β} {D : Enc γ} {D' : Enc δ} : So (eT4 A B D D') := ⟨.inl fun _ => ⟨_, _, rfl⟩⟩
theorem zip_rep {K : Fg} {F : Hp} : ∀ {vs : List V} {xs : List α}, RepAll K F vs (xs.map E.enc) → (vs.zip (xs.map E.enc)) = (vs.zip xs).map fun p => (p.1, E.enc p.2)
  | [], _, _ => rfl
  | _ :: _, [], h => by cases h
  | v :: vs, x :: xs, h => by
    cases h with
    | cons h1 h2 =>
      show (v, E.enc x) :: vs.zip (xs.map E.enc) = (v, E.enc x) :: (vs.zip xs).map _
      rw [zip_rep h2]
theorem rep_zip {K : Fg} {F : Hp} : ∀ {vs : List V} {xs : List α}, RepAll K F vs (xs.map E.enc) → ∀ p ∈ vs.zip xs, Rep K F p.1 (E.enc p.2)
  | [], _, _, p, m => by simp at m
  | _ :: _, [], h, _, _ => by cases h
  | v :: vs, x :: xs, h, p, m => by
    cases h with
    | cons h1 h2 =>
      rcases List.mem_cons.mp m with rfl | m
      · exact h1
      · exact rep_zip h2 p m
theorem RepAll.of_pairs {K : Fg} {F : Hp} : ∀ (ps : List (V × α)), (∀ p ∈ ps, Rep K F p.1 (E.enc p.2)) → RepAll K F (ps.map Prod.fst) ((ps.map Prod.snd).map E.enc)
  | [], _ => .nil
  | p :: ps, h => .cons (h p List.mem_cons_self) (RepAll.of_pairs ps fun q m => h q (List.mem_cons_of_mem _ m))
theorem sort_pairs {K : Fg} {F : Hp} {lt : α → α → Bool} (od : Od E lt) {vs : List V} {xs : List α} (h : RepAll K F vs (xs.map E.enc)) :
    RepAll K F (((vs.zip (xs.map E.enc)).mergeSort (PySem.W.dataLe false Prod.snd)).map Prod.fst) ((sortB lt xs).map E.enc) := by
  have hl : vs.length = xs.length := by have := h.length; simpa using this
  have e0 : ((vs.zip xs).mergeSort fun p q => !lt q.2 p.2).map (fun p => (p.1, E.enc p.2)) = (vs.zip (xs.map E.enc)).mergeSort (PySem.W.dataLe false Prod.snd) := by
    rw [zip_rep h]
    refine PySem.W.sort_maps _ fun p _ q _ => ?_
    rw [PySem.W.dataLe_eq]
    show (!lt q.2 p.2) = !PySem.W.dataLt (E.enc q.2) (E.enc p.2)
    rw [od.lt]
  rw [← e0, List.map_map]
  have e1 : ((vs.zip xs).mergeSort fun p q => !lt q.2 p.2).map Prod.snd = sortB lt xs := by
    unfold sortB
    rw [PySem.W.sort_maps (s := fun x y => !lt y x) Prod.snd (fun p _ q _ => rfl), List.map_snd_zip (by omega)]
  rw [← e1]
  exact RepAll.of_pairs _ fun p m => rep_zip h p (List.mem_mergeSort.mp m)
theorem lx_sorted {lt : α → α → Bool} {n : Nat} {g : τ → List α} {f : (τ → P → Option Ω) → Option Ω} (hu : X.A.units + 64 < cLine) (od : Od E lt) (so : So E) (dt : Dt E n) (hv : LVw S (it E) g) (hm : X.mg "sorted" = none) (ha : LO X G env a S e' f) (hG : ∀ p, G (e' p)) (hn : n ≤ 60 := by decide) (hg : Gl X "sorted" := by rfl) (he : starEach (a :: []) X.env = (false, eval a X.env) :: starEach [] X.env := by rfl) (hpl : (backTo pos (starEach [] X.env)).any (·.1) = false := by rfl) :
    LX X env (.Call (.Name "sorted" np) [a] [] pos) (ls (it E)) e' (fun k => f fun x p => (some (sortB lt (g x))).bind fun y => k y p) :=
  lx_b1n (E := E) (g := fun x : τ => some (sortB lt (g x))) (cr_sortD hu) hm PyProof.Rows.boot_sorted ha hG (fun K F H fp v x y Q hK s hy r q => by
    subst hK
    cases hy
    obtain ⟨p, vs, fps, rfl, h1, h2⟩ := hv.view s r
    have rp := h2.zero.2
    have hd := dts dt (g x)
    refine ⟨p, vs, (g x).map E.enc, rfl, h1, rp.dp s hd.1, (od_all od (g x)).1, ?_, fun d m => by obtain ⟨y, _, rfl⟩ := List.mem_map.mp m; exact Nat.le_trans (dt.dep y) hn, fun t nt => q t _ nt (sort_pairs od rp)⟩
    rcases so.so with so | so
    · exact .inl fun d m => by obtain ⟨y, _, rfl⟩ := List.mem_map.mp m; exact so y
    · exact .inr fun d m => by obtain ⟨y, _, rfl⟩ := List.mem_map.mp m; exact so y) hg (by decide) (by decide) he hpl

/-! ### enumerate, zip -/
def enumL {α : Type} (xs : List α) : List (Int × α) := xs.zipIdx.map fun p => ((p.2 : Int), p.1)
theorem enumL_get {α : Type} (xs : List α) (i : Nat) : (enumL xs)[i]? = (xs[i]?).map fun x => ((i : Int), x) := by
  unfold enumL
  rw [List.getElem?_map, List.getElem?_zipIdx]
  cases xs[i]? <;> simp
theorem li_enum {f : (τ → P → Option Ω) → Option Ω} {g : τ → List α} {elts : List Expr} {kk : Nat} {tp p : Pos} (hg : Gl X "enumerate") (hm : X.mg "enumerate" = none) (hv : LVw S (it E) g) (h : LX X env a S e' f) (hs : starEach [a] X.env = [(false, eval a X.env)] := by rfl) (hs4 : starEach [a] X.env = (false, eval a X.env) :: starEach [] X.env := by rfl) :
    LI X env (.Tuple elts kk tp) (.Call (.Name "enumerate" p) [a] [] pos) (it (eT2 eI E)) e' (fun k => f fun x q => k (enumL (g x)) q) :=
  fun C F H σs es σ k ω R hK hl hr hk q => tI.of X (pi_enum hg hm (pa_cons (peC X) pa_nil hs4) hs) (h C F H σs es σ _ ω _ hK hl hr hk fun x p v F' H' hk' h' => by
    obtain ⟨v', fp, e1, r⟩ := h'.look (i := 0) rfl
    simp at e1; subst e1
    obtain ⟨p0, vs, fps, rfl, hs, ra⟩ := hv.view h'.sF r
    refine ⟨p0, vs, rfl, by rw [← hK]; exact hs, q (enumL (g x)) p (Ite X.K p0) F' H' [some (.ref p0)] [.st none τ S x] hk' h' ⟨rfl, fun i F2 H2 σ2 σb e2 eb hl2 h2 => ?_⟩⟩
    obtain ⟨v', fp', e1, r'⟩ := h2.look (i := e2.length + 0) (by rw [at_app _ rfl]; rfl)
    rw [at_app _ hl2] at e1
    simp at e1; subst e1
    obtain ⟨p1, ws, fps', e3, hs', ra'⟩ := hv.view h2.sF r'
    cases e3
    rw [hK] at hs'
    have rp := ra'.zero.2
    rw [enumL_get]
    refine ⟨fun y hy => ?_, fun hn => ?_⟩
    · cases hgi : (g x)[i]? with
      | none => rw [hgi] at hy; cases hy
      | some z =>
        rw [hgi] at hy
        cases hy
        obtain ⟨w, hw, rw'⟩ := rp.get (i := i) (d := E.enc z) (by rw [List.getElem?_map, hgi]; rfl)
        refine ⟨⟨ws, w, hs', hw⟩, fun v H' hy' => ?_⟩
        obtain ⟨T, w', rfl, nT, rfl, hy'⟩ := hy'
        have := hy' ws hs'
        rw [hw] at this; cases this
        refine ⟨upd F2 T (.tup [.int (i : Nat), w]), (h2.newF nT).pushSh ?_⟩
        exact .tup (SqT.of upd_same) (.cons (.int _) (.cons (rw'.mono (same_new (h2.fnone nT))) .nil))
    · refine ⟨ws, hs', ?_⟩
      have := rp.length
      simp at this
      cases hgi : (g x)[i]? with
      | none => have := List.getElem?_eq_none_iff.mp hgi; omega
      | some z => rw [hgi] at hn; cases hn)
theorem li_zip {fa : (τ1 → P1 → Option Ω) → Option Ω} {fb : P1 → (τ2 → P2 → Option Ω) → Option Ω} {g2 : τ2 → List β} {elts : List Expr} {kk : Nat} {tp p : Pos} (hg : Gl X "zip") (hm : X.mg "zip" = none) (hv : LVw S1 (it E) g1) (hv2 : LVw S2 (it Eb) g2) (h : LX X env a S1 e1 fa) (h2 : ∀ p1, LX X (e1 p1) b S2 (e2 p1) (fb p1))
    (hs : starEach [a, b] X.env = (false, eval a X.env) :: starEach [b] X.env := by rfl) (hs4 : starEach [b] X.env = (false, eval b X.env) :: starEach [] X.env := by rfl) (hpl : (backTo pos (starEach [b] X.env)).any (·.1) = false := by rfl) :
    LI X env (.Tuple elts kk tp) (.Call (.Name "zip" p) [a, b] [] pos) (it (eT2 E Eb)) (fun q : P1 × P2 => e2 q.1 q.2) (fun k => fa fun x p1 => fb p1 fun y p2 => k ((g1 x).zip (g2 y)) (p1, p2)) :=
  fun C F H σs es σ k ω R hK hl hr hk q => tI.of X (pi_zip hg hm (pa_cons (peC X) (pa_cons (peC X) pa_nil hs4) hs) hs hpl) (h C F H σs es σ _ ω _ hK hl hr hk fun x p1 v F1 H1 hk1 h1 =>
    h2 p1 C F1 H1 (some v :: σs) (.st none τ1 S1 x :: es) σ _ ω _ hK (by simp [hl]) h1 hk1 fun y p2 u F' H' hk' h' => by
      have h'' : ER C F' H' ([some u, some v] ++ (σs ++ σ)) ([.st none τ2 S2 y, .st none τ1 S1 x] ++ (es ++ e2 p1 p2)) := h'
      obtain ⟨u', fq, eq1, rq⟩ := h''.look (i := 0) rfl
      simp at eq1; subst eq1
      obtain ⟨v', fp, ev1, rv⟩ := h''.look (i := 1) rfl
      simp at ev1; subst ev1
      obtain ⟨pb, ws, fqs, rfl, hsb, rb⟩ := hv2.view h''.sF rq
      obtain ⟨pa, vs, fps, rfl, hsa, ra⟩ := hv.view h''.sF rv
      refine ⟨pa, pb, vs, ws, rfl, by rw [← hK]; exact hsa, by rw [← hK]; exact hsb, q ((g1 x).zip (g2 y)) (p1, p2) (Itz X.K pa pb) F' H' [some (.ref pb), some (.ref pa)] [.st none τ2 S2 y, .st none τ1 S1 x] hk' h'' ⟨rfl, fun i F2 H2 σ2 σb e2' eb hl2 h3 => ?_⟩⟩
      obtain ⟨u', fq', eq1, rq'⟩ := h3.look (i := e2'.length + 0) (by rw [at_app _ rfl]; rfl)
      rw [at_app _ hl2] at eq1
      simp at eq1; subst eq1
      obtain ⟨v', fp', ev1, rv'⟩ := h3.look (i := e2'.length + 1) (by rw [at_app _ rfl]; rfl)
      rw [at_app _ hl2] at ev1
      simp at ev1; subst ev1
      obtain ⟨pb', ws', fqs', e5, hsb', rb'⟩ := hv2.view h3.sF rq'
      obtain ⟨pa', vs', fps', e6, hsa', ra'⟩ := hv.view h3.sF rv'
      cases e5; cases e6
      rw [hK] at hsb' hsa'
      have rpb := rb'.zero.2
      have rpa := ra'.zero.2
      have lb := rpb.length
      have la := rpa.length
      simp at lb la
      refine ⟨fun z hz => ?_, fun hn => ?_⟩
      · rw [List.getElem?_zip_eq_some] at hz
        obtain ⟨hz1, hz2⟩ := hz
        obtain ⟨w1, hw1, rw1⟩ := rpa.get (i := i) (d := E.enc z.1) (by rw [List.getElem?_map, hz1]; rfl)
        obtain ⟨w2, hw2, rw2⟩ := rpb.get (i := i) (d := Eb.enc z.2) (by rw [List.getElem?_map, hz2]; rfl)
        refine ⟨⟨vs', ws', w1, w2, hsa', hsb', hw1, hw2⟩, fun v H' hy' => ?_⟩
        obtain ⟨T, x1, x2, rfl, nT, rfl, hy1, hy2⟩ := hy'
        have t1 := hy1 vs' hsa'
        have t2 := hy2 ws' hsb'
        rw [hw1] at t1; cases t1
        rw [hw2] at t2; cases t2
        refine ⟨upd F2 T (.tup [w1, w2]), (h3.newF nT).pushSh ?_⟩
        have sm := same_new (u := HO.tup [w1, w2]) (h3.fnone nT)
        exact .tup (SqT.of upd_same) (.cons (rw1.mono sm) (.cons (rw2.mono sm) .nil))
      · refine ⟨vs', ws', hsa', hsb', ?_⟩
        have := List.getElem?_eq_none_iff.mp hn
        rw [List.length_zip] at this
        omega)
end
section
variable {X : Cx} {R I Ω : Type} {SR : Stor R} {envR : I → Env} {kr : R → I → Option Ω} {bk ct : Lp Ω} {env : Env} {nm : Str} {pos : Pos} {e : Expr} {rest : List Stmt} {P : Type} {τ α : Type} {S : Stor τ} {E : Enc α} {e' : P → Env} {J : Type} {envJ : J → Env} {g : τ → List α}
/-- x.extend(ys), x a list of one's own -/
theorem lb_ext {f : (τ → P → Option Ω) → Option Ω} {fr : τ → P → (J → Option Ω) → Option Ω} {w : Option V} {x0 : List α} {xs : P → List α} {ap cp np : Pos} (i : Nat) (h0 : env[i]? = some (.st w (List α) (ls (it E)) x0)) (hvw : LVm S (it E) g)
    (he : LX X env e S e' f) (h1 : ∀ p, (e' p)[i]? = some (.st w (List α) (ls (it E)) (xs p))) (hr : ∀ y p, LB X SR envR kr bk ct ((e' p).set i (.st w (List α) (ls (it E)) (xs p ++ g y))) rest envJ (fr y p))
    (hN : X.N[i]? = some nm := by rfl) (hv : Vis X.env.scope nm := by first | exact Or.inl rfl | exact Or.inr (Or.inl rfl) | exact Or.inr (Or.inr rfl))
    (hd : (nm == ("__debug__" : Str)) = false := by decide) (hcd : (nm == ("__classdict__" : Str)) = false := by decide)
    (hbase : attributeBase (.Name nm np) "extend" X.env (eval (.Name nm np) X.env) = eval (.Name nm np) X.env := by rfl)
    (hfew : ((backTo cp (starEach [e] X.env)).all (fun x => !x.1) && (backToKw cp (keywordEach [] X.env)).all (fun x => x.1.isSome) && decide ([e].length + ([] : List Keyword).length + (if ([] : List Keyword).isEmpty then 0 else 1) < 30)) = true := by rfl)
    (hline : (ap.endLine == cp.line) = true := by rfl) (hse : starEach [e] X.env = (false, eval e X.env) :: starEach [] X.env := by rfl) (hplain : (backTo cp (starEach [] X.env)).any (·.1) = false := by rfl)
    (hsw : swapsWith (.Call (.Attribute (.Name nm np) "extend" ap) [e] [] cp) none pos.line X.env = pure false := by rfl) :
    LB X SR envR kr bk ct env (.Expr (.Call (.Attribute (.Name nm np) "extend" ap) [e] [] cp) pos :: rest) envJ (fun kn => f fun y p => ck (decide ((xs p).length + (g y).length ≤ SZ)) (fr y p kn)) :=
  fun C F H σs es σ kn ω D hK hl h hk qn qb qc qr => tSs.of X (pss_cons (ps_expr (pe_bm PySem.F.plainAttrs_list PySem.F.slot_list_extend PySem.F.type_list_extend mt_extend (pe_var hN hv hd hcd) (pa_cons (peC X) pa_nil hse) hbase hfew hline hse hplain) hsw) (pssC X)) (by
    obtain ⟨l, fp, e1, r⟩ := h.lookF hl h0
    obtain ⟨q0, vs0, fps0, rfl, hq0, _, _⟩ := r
    refine ⟨_, e1, .inl ⟨rfl, vs0, SqL.of hq0⟩, he C F H σs es σ _ ω _ hK hl h hk fun y p v F' H' hk' h' => ?_⟩
    obtain ⟨hc, hk'⟩ := ck_some hk'
    have hc' := of_decide_eq_true hc
    obtain ⟨v', fpy, ey, ry⟩ := h'.look (i := 0) rfl
    simp at ey; subst ey
    obtain ⟨pb, zs, fps, rfl, hb, rb⟩ := hvw.view h'.sF ry
    have rpb := rb.zero.2
    obtain ⟨l', fp', e4, r1, nd, ow, fin⟩ := (ER.pop h').mut (i := es.length + i) (by rw [at_app _ rfl]; exact h1 p)
    rw [at_app _ hl, e1] at e4
    cases e4
    obtain ⟨q1, vs, fps', e5, hq, ra, rfl⟩ := r1
    cases e5
    obtain ⟨rfl, rp⟩ := ra.zero
    have n1 : vs.length = (xs p).length := by have := rp.length; simpa using this
    have n2 : zs.length = (g y).length := by have := rpb.length; simpa using this
    refine ⟨q0, pb, vs, zs, rfl, rfl, hq, hb, by rw [SZ_eq]; omega, ?_⟩
    have fin' := fin (List α) (ls (it E)) (xs p ++ g y) (upd H' q0 (.lst (vs ++ zs))) [q0] (fun a na _ => upd_ne fun z => na (by rw [z]; simp)) (fun a m => ?_) ⟨q0, vs ++ zs, [], rfl, upd_same, ?_, rfl⟩ (by simp) (fun a m => ?_)
    · rw [List.set_append_right _ _ (Nat.le_add_right _ _), Nat.add_sub_cancel_left] at fin'
      exact hr y p C F' _ σs es σ kn ω D hK hl fin' hk' qn qb qc qr
    · by_cases z : a = q0
      · subst z; rw [upd_same]; exact fun z => by cases z
      · rw [upd_ne z]; exact m
    · have := rp.app rpb
      rw [← List.map_append] at this
      exact this.zero
    · simp at m; subst m
      exact ⟨by rw [upd_same]; exact (fun z => by cases z), .inl (by simp)⟩)
end
/-! ### the script; the last step -/
theorem lv_scr : LVw scr (it eI) id := ⟨fun {K F H fp v x} s r => by
  obtain ⟨_, a, rfl, q⟩ := r
  exact ⟨a, _, [], rfl, s.seq q, (RepAll.ofInts x).zero⟩⟩
theorem lb_use {X : Cx} {R I Ω J : Type} {SR : Stor R} {envR : I → Env} {kr : R → I → Option Ω} {bk ct : Lp Ω} {env : Env} {sts : List Stmt} {envJ : J → Env} {f f' : (J → Option Ω) → Option Ω} (h : LB X SR envR kr bk ct env sts envJ f) (e : f = f') : LB X SR envR kr bk ct env sts envJ f' := e ▸ h
theorem lx_use {X : Cx} {Ω P τ : Type} {S : Stor τ} {env : Env} {e : Expr} {env' : P → Env} {f f' : (τ → P → Option Ω) → Option Ω} (h : LX X env e S env' f) (q : f = f') : LX X env e S env' f' := q ▸ h
end Z

set_option Elab.async false
set_option linter.all false
set_option maxRecDepth 100000
namespace Z
open PySem PySem.Spec PyProof.Rows L2

/-! ### a state [n, cells]: a list that holds an int and a list of ints of its own -/
abbrev TSt := Int × List Int
def stT : Stor TSt where
  rel := fun _ _ H fp v t => ∃ p q, v = .ref p ∧ H p = some (.lst [.int t.1, .ref q]) ∧ H q = some (.lst (t.2.map V.int)) ∧ fp = [p, q]
  monoF := fun _ h => h
  frame := fun f h => by
    obtain ⟨p, q, rfl, h1, h2, rfl⟩ := h
    exact ⟨p, q, rfl, by rw [f p (by simp)]; exact h1, by rw [f q (by simp)]; exact h2, rfl⟩
/-- the same without the list: it stands at q -/
def stA (q : Addr) : Stor Int where
  rel := fun _ _ H fp v n => ∃ p, v = .ref p ∧ H p = some (.lst [.int n, .ref q]) ∧ fp = [p]
  monoF := fun _ h => h
  frame := fun f h => by
    obtain ⟨p, rfl, h1, rfl⟩ := h
    exact ⟨p, rfl, by rw [f p (by simp)]; exact h1, rfl⟩
section
variable {C : Ck} {F H : Hp} {σ : List (Option V)} {env : Env}
/-- the list of a state under a name of its own -/
theorem ER.split {i j : Nat} {w : V} {t : TSt} (h : ER C F H σ env) (e : env[i]? = some (.st (some w) TSt stT t)) (ej : env[j]? = some .un) : ∃ p q, σ[i]? = some (some (.ref p)) ∧ H p = some (.lst [.int t.1, .ref q]) ∧
    ER C F H (σ.set j (some (.ref q))) ((env.set i (.st (some w) Int (stA q) t.1)).set j (.st (some (.ref q)) (List Int) (ls (it eI)) t.2)) := by
  obtain ⟨fp, k⟩ := h.sl
  have hi := lt_of_get e
  have hj := lt_of_get ej
  have ne : i ≠ j := fun z => by subst z; rw [e] at ej; cases ej
  obtain ⟨v, e1, ⟨p, q, rfl, h1, h2, hf⟩, e2, k2⟩ := k.ok i _ e
  have e1' : σ[i]? = some (some (.ref p)) := by
    cases z : σ[i]? with
    | none => rw [z] at e1; cases e1
    | some o => rw [z] at e1; exact congrArg some e1
  have own := k.own i hi
  have nd := k.nd i hi
  rw [hf] at own nd k2
  have hpq : p ≠ q := by simpa using nd
  have mem : ∀ a, (a = p ∨ a = q) → a ∈ fp i := fun a m => by rw [hf]; simpa using m
  refine ⟨p, q, e1', h1, h.sB, h.sF, h.gr, h.up, by simp [h.len], fun l => if l = i then [p] else if l = j then [q] else fp l, fun l s el => ?_, fun l hl a ha => ?_, fun l m hl hm a ha hb => ?_, fun l hl => ?_⟩
  · by_cases zj : l = j
    · subst zj
      rw [List.getElem?_set_self (by simpa using hj)] at el
      cases el
      simp only [if_neg (fun z : l = i => ne z.symm), if_pos]
      have hls : l < σ.length := by rw [h.len]; exact hj
      refine ⟨.ref q, by rw [List.getElem?_set_self hls]; rfl, ⟨q, t.2.map V.int, [], rfl, h2, (RepAll.ofInts t.2).zero, rfl⟩, rfl, fun a m => ?_⟩
      simp at m; subst m
      exact k2 a (by simp)
    · rw [List.getElem?_set_ne (fun z => zj z.symm)] at el
      by_cases zi : l = i
      · subst zi
        rw [List.getElem?_set_self hi] at el
        cases el
        simp only [if_pos]
        refine ⟨.ref p, by rw [List.getElem?_set_ne (fun z => zj z.symm)]; exact e1, ⟨p, rfl, h1, rfl⟩, e2, fun a m => ?_⟩
        simp at m; subst m
        exact k2 a (by simp)
      · rw [List.getElem?_set_ne (fun z => zi z.symm)] at el
        simp only [if_neg zi, if_neg zj]
        rw [List.getElem?_set_ne (fun z => zj z.symm)]
        exact k.ok l s el
  · have hl' : l < env.length := by simpa using hl
    by_cases zi : l = i
    · simp only [if_pos zi] at ha
      simp at ha; subst ha
      exact own a (by simp)
    · simp only [if_neg zi] at ha
      by_cases zj : l = j
      · simp only [if_pos zj] at ha
        simp at ha; subst ha
        exact own a (by simp)
      · simp only [if_neg zj] at ha
        exact k.own l hl' a ha
  · have hl' : l < env.length := by simpa using hl
    have hm' : m < env.length := by simpa using hm
    have cl : ∀ l, l < env.length → a ∈ (if l = i then [p] else if l = j then [q] else fp l) → (l = i ∧ a = p) ∨ (l = j ∧ a = q) ∨ (l ≠ i ∧ l ≠ j ∧ a ∈ fp l) := fun l hl ha => by
      by_cases zi : l = i
      · simp only [if_pos zi] at ha; simp at ha; exact .inl ⟨zi, ha⟩
      · simp only [if_neg zi] at ha
        by_cases zj : l = j
        · simp only [if_pos zj] at ha; simp at ha; exact .inr (.inl ⟨zj, ha⟩)
        · simp only [if_neg zj] at ha; exact .inr (.inr ⟨zi, zj, ha⟩)
    rcases cl l hl' ha with ⟨a1, a2⟩ | ⟨a1, a2⟩ | ⟨a1, a2, a3⟩
    · rcases cl m hm' hb with ⟨b1, b2⟩ | ⟨b1, b2⟩ | ⟨b1, b2, b3⟩
      · rw [a1, b1]
      · exact absurd (a2.symm.trans b2) hpq
      · exact absurd (k.sep m i hm' hi a b3 (mem a (.inl a2))) b1
    · rcases cl m hm' hb with ⟨b1, b2⟩ | ⟨b1, b2⟩ | ⟨b1, b2, b3⟩
      · exact absurd (b2.symm.trans a2) hpq
      · rw [a1, b1]
      · exact absurd (k.sep m i hm' hi a b3 (mem a (.inr a2))) b1
    · rcases cl m hm' hb with ⟨b1, b2⟩ | ⟨b1, b2⟩ | ⟨b1, b2, b3⟩
      · exact absurd (k.sep l i hl' hi a a3 (mem a (.inl b2))) a1
      · exact absurd (k.sep l i hl' hi a a3 (mem a (.inr b2))) a1
      · exact k.sep l m hl' hm' a a3 b3
  · have hl' : l < env.length := by simpa using hl
    by_cases zi : l = i
    · simp only [if_pos zi]; simp
    · simp only [if_neg zi]
      by_cases zj : l = j
      · simp only [if_pos zj]; simp
      · simp only [if_neg zj]; exact k.nd l hl'
/-- .. and together again -/
theorem ER.join {i j : Nat} {w : V} {q : Addr} {n : Int} {cs : List Int} (h : ER C F H σ env) (e : env[i]? = some (.st (some w) Int (stA q) n)) (ej : env[j]? = some (.st (some (.ref q)) (List Int) (ls (it eI)) cs)) :
    ER C F H σ ((env.set i (.st (some w) TSt stT (n, cs))).set j .un) := by
  obtain ⟨fp, k⟩ := h.sl
  have hi := lt_of_get e
  have hj := lt_of_get ej
  obtain ⟨v, e1, ⟨p, rfl, h1, hf⟩, e2, k2⟩ := k.ok i _ e
  obtain ⟨u, u1, ⟨q', vs, fps, rfl, h2, ra, hg⟩, u2, u3⟩ := k.ok j _ ej
  have hq : q' = q := by cases u2; rfl
  subst hq
  obtain ⟨rfl, rp⟩ := ra.zero
  have hv := rp.ints
  subst hv
  have ne : i ≠ j := fun z => by
    subst z
    rw [e1] at u1
    have e3 : p = q' := by
      have := Option.some.inj u1
      cases this; rfl
    subst e3
    rw [h1] at h2
    have e4 := Option.some.inj h2
    have e5 : [V.int n, V.ref p] = cs.map V.int := by injection e4
    cases cs with
    | nil => simp at e5
    | cons a cs => cases cs with
      | nil => simp at e5
      | cons b cs => simp at e5
  have ownp := k.own i hi p (by rw [hf]; simp)
  have ownq := k.own j hj q' (by rw [hg]; simp)
  have hpq : p ≠ q' := fun z => by
    subst z
    exact ne (k.sep i j hi hj p (by rw [hf]; simp) (by rw [hg]; simp))
  refine ⟨h.sB, h.sF, h.gr, h.up, by simp [h.len], fun l => if l = i then [p, q'] else if l = j then [] else fp l, fun l s el => ?_, fun l hl a ha => ?_, fun l m hl hm a ha hb => ?_, fun l hl => ?_⟩
  · by_cases zj : l = j
    · subst zj
      rw [List.getElem?_set_self (by simpa using hj)] at el
      cases el
      simp only [if_neg (fun z : l = i => ne z.symm), if_pos]
      rfl
    · rw [List.getElem?_set_ne (fun z => zj z.symm)] at el
      by_cases zi : l = i
      · subst zi
        rw [List.getElem?_set_self hi] at el
        cases el
        simp only [if_pos]
        refine ⟨.ref p, e1, ⟨p, q', rfl, h1, h2, rfl⟩, e2, fun a m => ?_⟩
        simp at m
        rcases m with rfl | rfl
        · exact k2 a (by rw [hf]; simp)
        · exact u3 a (by rw [hg]; simp)
      · rw [List.getElem?_set_ne (fun z => zi z.symm)] at el
        simp only [if_neg zi, if_neg zj]
        exact k.ok l s el
  · have hl' : l < env.length := by simpa using hl
    by_cases zi : l = i
    · simp only [if_pos zi] at ha
      simp at ha
      rcases ha with rfl | rfl
      · exact ownp
      · exact ownq
    · simp only [if_neg zi] at ha
      by_cases zj : l = j
      · simp [if_pos zj] at ha
      · simp only [if_neg zj] at ha
        exact k.own l hl' a ha
  · have hl' : l < env.length := by simpa using hl
    have hm' : m < env.length := by simpa using hm
    have cl : ∀ l, l < env.length → a ∈ (if l = i then [p, q'] else if l = j then [] else fp l) → (l = i ∧ (a ∈ fp i ∨ a ∈ fp j)) ∨ (l ≠ i ∧ l ≠ j ∧ a ∈ fp l) := fun l hl ha => by
      by_cases zi : l = i
      · simp only [if_pos zi] at ha; simp at ha
        refine .inl ⟨zi, ?_⟩
        rcases ha with rfl | rfl
        · exact .inl (by rw [hf]; simp)
        · exact .inr (by rw [hg]; simp)
      · simp only [if_neg zi] at ha
        by_cases zj : l = j
        · simp [if_pos zj] at ha
        · simp only [if_neg zj] at ha; exact .inr ⟨zi, zj, ha⟩
    rcases cl l hl' ha with ⟨a1, a2⟩ | ⟨a1, a2, a3⟩
    · rcases cl m hm' hb with ⟨b1, b2⟩ | ⟨b1, b2, b3⟩
      · rw [a1, b1]
      · rcases a2 with a2 | a2
        · exact absurd (k.sep m i hm' hi a b3 a2) b1
        · exact absurd (k.sep m j hm' hj a b3 a2) b2
    · rcases cl m hm' hb with ⟨b1, b2⟩ | ⟨b1, b2, b3⟩
      · rcases b2 with b2 | b2
        · exact absurd (k.sep l i hl' hi a a3 b2) a1
        · exact absurd (k.sep l j hl' hj a a3 b2) a2
      · exact k.sep l m hl' hm' a a3 b3
  · have hl' : l < env.length := by simpa using hl
    by_cases zi : l = i
    · simp only [if_pos zi]; simp [hpq]
    · simp only [if_neg zi]
      by_cases zj : l = j
      · simp [if_pos zj]
      · simp only [if_neg zj]; exact k.nd l hl'
/-- a new state of a number and a list -/
theorem ER.joinTop {p q : Addr} {n : Int} {cs : List Int} (h : ER C F H (some (.ref p) :: some (.ref q) :: σ) (.st none Int (stA q) n :: .st none (List Int) (ls (it eI)) cs :: env)) : ER C F H (some (.ref p) :: σ) (.st none TSt stT (n, cs) :: env) := by
  obtain ⟨fp, k⟩ := h.sl
  obtain ⟨v, e1, ⟨p', rfl, h1, hf⟩, k2⟩ := k.ok 0 _ rfl
  simp at e1; subst e1
  obtain ⟨u, u1, ⟨q', vs, fps, rfl, h2, ra, hg⟩, u3⟩ := k.ok 1 _ rfl
  simp at u1; subst u1
  obtain ⟨rfl, rp⟩ := ra.zero
  have hv := rp.ints
  subst hv
  have l0 : 0 < (Slot.st none Int (stA q) n :: Slot.st none (List Int) (ls (it eI)) cs :: env).length := by simp
  have l1 : 1 < (Slot.st none Int (stA q) n :: Slot.st none (List Int) (ls (it eI)) cs :: env).length := by simp
  have ownp := k.own 0 l0 p (by rw [hf]; simp)
  have ownq := k.own 1 l1 q (by rw [hg]; simp)
  have hpq : p ≠ q := fun z => by
    subst z
    have := k.sep 0 1 l0 l1 p (by rw [hf]; simp) (by rw [hg]; simp)
    omega
  have hp := h.pop.pop
  refine ⟨hp.sB, hp.sF, hp.gr, hp.up, by simp [hp.len], _, Fps.push (fp := fun l => fp (l + 2)) ⟨fun l s el => ?_, fun l hl a ha => ?_, fun l m hl hm a ha hb => ?_, fun l hl => ?_⟩ (fq := [p, q]) ⟨_, rfl, ⟨p, q, rfl, h1, h2, rfl⟩, fun a m => ?_⟩ (fun a m => ?_) (by simp [hpq]) fun l hl a ha m => ?_⟩
  · have := k.ok (l + 2) s (by simpa using el)
    simpa using this
  · exact k.own (l + 2) (by simpa using hl) a ha
  · have := k.sep (l + 2) (m + 2) (by simpa using hl) (by simpa using hm) a ha hb
    omega
  · exact k.nd (l + 2) (by simpa using hl)
  · simp at m
    rcases m with rfl | rfl
    · exact k2 a (by rw [hf]; simp)
    · exact u3 a (by rw [hg]; simp)
  · simp at m
    rcases m with rfl | rfl
    · exact ownp
    · exact ownq
  · simp at m
    rcases m with rfl | rfl
    · have := k.sep (l + 2) 0 (by simpa using hl) l0 a ha (by rw [hf]; simp); omega
    · have := k.sep (l + 2) 1 (by simpa using hl) l1 a ha (by rw [hg]; simp); omega
end
section
variable {X : Cx} {R I Ω : Type} {SR : Stor R} {envR : I → Env} {kr : R → I → Option Ω} {bk ct : Lp Ω} {env : Env} {nm nm2 : Str} {pos : Pos} {a b e : Expr} {rest : List Stmt} {P P1 P2 : Type} {J : Type} {envJ : J → Env} {e' : P → Env} {e1 : P1 → Env} {e2 : P1 → P2 → Env}
/-- cells = state[1] -/
theorem lb_alias {f : (J → Option Ω) → Option Ω} {w : V} {t : TSt} {p1 p2 cp sp : Pos} {k : Nat} (i j : Nat) (hN : X.N.Nodup) (he : env[i]? = some (.st (some w) TSt stT t)) (hj : env[j]? = some .un)
    (hr : ∀ q, LB X SR envR kr bk ct ((env.set i (.st (some w) Int (stA q) t.1)).set j (.st (some (.ref q)) (List Int) (ls (it eI)) t.2)) rest envJ f)
    (hi : X.N[i]? = some nm := by rfl) (hv_nm : Vis X.env.scope nm := by first | exact Or.inl rfl | exact Or.inr (Or.inl rfl) | exact Or.inr (Or.inr rfl)) (hd : (nm == ("__debug__" : Str)) = false := by decide) (hcd : (nm == ("__classdict__" : Str)) = false := by decide)
    (hi2 : X.N[j]? = some nm2 := by rfl) (hx : Loc X.env.scope nm2 := by first | exact Or.inl rfl | exact Or.inr rfl) (hf : X.fn nm2 = true ∨ X.env.scope.names.lookup nm2 = some .local := by first | exact .inl rfl | exact .inr rfl)
    (hs : swapsWith (.Subscript (.Name nm p1) (.Constant (.int 1) k cp) sp) (some (.Name nm2 p2)) pos.line X.env = pure false := by rfl) :
    LB X SR envR kr bk ct env (.Assign [.Name nm2 p2] (.Subscript (.Name nm p1) (.Constant (.int 1) k cp) sp) pos :: rest) envJ f :=
  fun C F H σs es σ kn ω D hK hl h hk qn qb qc qr => tSs.of X (pss_cons (ps_set hN hi2 hx (pe_ix ix_list (pe_var hi hv_nm hd hcd) pe_int fun _ _ => rfl) hs hf) (pssC X)) (by
    obtain ⟨p, q, s1, h1, h2⟩ := h.split (i := es.length + i) (j := es.length + j) (by rw [at_app _ rfl]; exact he) (by rw [at_app _ rfl]; exact hj)
    rw [at_app _ hl] at s1
    rw [← hl, List.set_append_right _ _ (Nat.le_add_right _ _), Nat.add_sub_cancel_left, hl, List.set_append_right _ _ (Nat.le_add_right _ _), Nat.add_sub_cancel_left, List.set_append_right _ _ (Nat.le_add_right _ _), Nat.add_sub_cancel_left] at h2
    exact ⟨_, s1, p, [.int t.1, .ref q], 1, .ref q, rfl, rfl, SqL.of h1, rfl, hr q C F H σs es _ kn ω D hK hl h2 hk qn qb qc qr⟩)
/-- the list is the state's again -/
theorem lb_join {sts : List Stmt} {f : (J → Option Ω) → Option Ω} {w : V} {q : Addr} {n : Int} {cs : List Int} (i j : Nat) (he : env[i]? = some (.st (some w) Int (stA q) n)) (hj : env[j]? = some (.st (some (.ref q)) (List Int) (ls (it eI)) cs))
    (hr : LB X SR envR kr bk ct ((env.set i (.st (some w) TSt stT (n, cs))).set j .un) sts envJ f) : LB X SR envR kr bk ct env sts envJ f :=
  fun C F H σs es σ kn ω D hK hl h hk qn qb qc qr => by
    have h2 := h.join (i := es.length + i) (j := es.length + j) (by rw [at_app _ rfl]; exact he) (by rw [at_app _ rfl]; exact hj)
    rw [List.set_append_right _ _ (Nat.le_add_right _ _), Nat.add_sub_cancel_left, List.set_append_right _ _ (Nat.le_add_right _ _), Nat.add_sub_cancel_left] at h2
    exact hr C F H σs es σ kn ω D hK hl h2 hk qn qb qc qr
/-- state[0] -/
theorem lx_st0 {w : Option V} {q : Addr} {n : Int} {p1 cp sp : Pos} {k : Nat} (i : Nat) (he : env[i]? = some (.st w Int (stA q) n)) (hi : X.N[i]? = some nm := by rfl) (hv_nm : Vis X.env.scope nm := by first | exact Or.inl rfl | exact Or.inr (Or.inl rfl) | exact Or.inr (Or.inr rfl)) (hd : (nm == ("__debug__" : Str)) = false := by decide) (hcd : (nm == ("__classdict__" : Str)) = false := by decide) :
    LX X env (.Subscript (.Name nm p1) (.Constant (.int 0) k cp) sp) (it eI) (fun _ : Unit => env) (fun (k : Int → Unit → Option Ω) => k n ()) :=
  fun C F H σs es σ k ω Q hK hl h hk q => tE.of X (pe_ix ix_list (pe_var hi hv_nm hd hcd) pe_int fun _ _ => rfl) (by
    obtain ⟨v, fp, e1, p, rfl, h1, _⟩ := h.lookF hl he
    exact ⟨_, e1, p, _, 0, .int n, rfl, rfl, SqL.of h1, rfl, q n () _ F H hk (h.pushSh (.int n))⟩)
/-- state[0] = e -/
theorem lb_st0 {f : (Int → P → Option Ω) → Option Ω} {fr : Int → P → (J → Option Ω) → Option Ω} {w : Option V} {q : Addr} {n : P → Int} {p1 cp sp : Pos} {k : Nat} (i : Nat) (he : LX X env e (it eI) e' f) (h1 : ∀ p, (e' p)[i]? = some (.st w Int (stA q) (n p)))
    (hr : ∀ y p, LB X SR envR kr bk ct ((e' p).set i (.st w Int (stA q) y)) rest envJ (fr y p)) (hi : X.N[i]? = some nm := by rfl) (hv_nm : Vis X.env.scope nm := by first | exact Or.inl rfl | exact Or.inr (Or.inl rfl) | exact Or.inr (Or.inr rfl)) (hd : (nm == ("__debug__" : Str)) = false := by decide) (hcd : (nm == ("__classdict__" : Str)) = false := by decide)
    (ha : ∀ v, assign (.Subscript (.Name nm p1) (.Constant (.int 0) k cp) sp) X.env v = (do
      let ov ← holding [v] (eval (.Name nm p1) X.env)
      let iv ← holding [v, ov] (eval (.Constant (.int 0) k cp) X.env)
      standAt sp
      holding [v, ov, iv] (setItem ov iv v)
      release [v, ov, iv] []) := by intro _; rfl)
    (hs : swapsWithSole [.Subscript (.Name nm p1) (.Constant (.int 0) k cp) sp] e pos.line X.env = pure false := by rfl) (hw : swappedStores [.Subscript (.Name nm p1) (.Constant (.int 0) k cp) sp] e X.env = pure none := by rfl) (ha1 : (assignEach [.Subscript (.Name nm p1) (.Constant (.int 0) k cp) sp] X.env).map (·.2) = [assign (.Subscript (.Name nm p1) (.Constant (.int 0) k cp) sp) X.env] := by rfl) :
    LB X SR envR kr bk ct env (.Assign [.Subscript (.Name nm p1) (.Constant (.int 0) k cp) sp] e pos :: rest) envJ (fun kn => f fun y p => fr y p kn) :=
  fun C F H σs es σ kn ω D hK hl h hk qn qb qc qr => tSs.of X (pss_cons (ps_asg (peC X) (pg_sub (pe_var hi hv_nm hd hcd) pe_int set_list ha) hs hw ha1) (pssC X)) (he C F H σs es σ _ ω _ hK hl h hk fun y p v F' H' hk' h' => by
    have hvy : v = .int y := by
      obtain ⟨v', fp, e1, r⟩ := h'.look (i := 0) rfl
      simp at e1; subst e1
      obtain ⟨_, r⟩ := r
      cases r; rfl
    subst hvy
    obtain ⟨l, fp, e1, r1, nd, ow, fin⟩ := (ER.pop h').mut (i := es.length + i) (by rw [at_app _ rfl]; exact h1 p)
    rw [at_app _ hl] at e1
    obtain ⟨p0, rfl, h2, rfl⟩ := r1
    refine ⟨_, e1, p0, _, 0, 0, rfl, rfl, h2, rfl, ?_⟩
    have fin' := fin Int (stA q) y (upd H' p0 (.lst [.int y, .ref q])) [p0] (fun a na _ => upd_ne fun z => na (by rw [z]; simp)) (fun a m => ?_) ⟨p0, rfl, upd_same, rfl⟩ (by simp) (fun a m => ?_)
    · rw [List.set_append_right _ _ (Nat.le_add_right _ _), Nat.add_sub_cancel_left] at fin'
      exact hr y p C F' _ σs es σ kn ω D hK hl fin' hk' qn qb qc qr
    · by_cases z : a = p0
      · subst z; rw [upd_same]; exact fun z => by cases z
      · rw [upd_ne z]; exact m
    · simp at m; subst m
      exact ⟨by rw [upd_same]; exact (fun z => by cases z), .inl (by simp)⟩)
/-- [n, cells] -/
theorem lx_st {fa : (Int → P1 → Option Ω) → Option Ω} {fb : P1 → (List Int → P2 → Option Ω) → Option Ω} (ha : LX X env a (it eI) e1 fa) (hb : ∀ p, LX X (e1 p) b (ls (it eI)) (e2 p) (fb p))
    (hs : starEach [a, b] X.env = (false, eval a X.env) :: starEach [b] X.env := by rfl) (hs2 : starEach [b] X.env = (false, eval b X.env) :: starEach [] X.env := by rfl) :
    LX X env (.List [a, b] pos) stT (fun p : P1 × P2 => e2 p.1 p.2) (fun k => fa fun x p1 => fb p1 fun y p2 => k (x, y) (p1, p2)) :=
  fun C F H σs es σ k ω Q hK hl h hk q => tE.of X (pe_lst (pa_cons (peC X) (pa_cons (peC X) pa_nil hs2) hs)) (ha C F H σs es σ _ ω _ hK hl h hk fun x p1 v F1 H1 hk1 h1 =>
    hb p1 C F1 H1 (some v :: σs) (.st none Int (it eI) x :: es) σ _ ω _ hK (by simp [hl]) h1 hk1 fun y p2 u F2 H2 hk2 h2 => by
      have hvx : v = .int x := by
        obtain ⟨v', fp, e1, r⟩ := h2.look (i := 1) rfl
        simp at e1; subst e1
        obtain ⟨_, r⟩ := r
        cases r; rfl
      subst hvx
      obtain ⟨u', fp, e1, q0, vs, fps, rfl, hq, _, _⟩ := h2.look (i := 0) rfl
      simp at e1; subst e1
      refine ⟨by show 2 ≤ sizeLine; rw [SZ_eq]; decide, fun t nt => ?_⟩
      have z2 : ER C F2 H2 ([some (.ref q0)] ++ some (.int x) :: (σs ++ σ)) ([.st none (List Int) (ls (it eI)) y] ++ .st none Int (it eI) x :: (es ++ e2 p1 p2)) := h2
      have h3 : ER C F2 H2 (some (.ref q0) :: (σs ++ σ)) (.st none (List Int) (ls (it eI)) y :: (es ++ e2 p1 p2)) := ER.pop (ER.rot z2 rfl)
      have h4 := h3.newOw (S := stA q0) (x := x) (v := .ref t) nt ⟨t, rfl, upd_same, rfl⟩
      exact q (x, y) (p1, p2) (.ref t) F2 _ hk2 h4.joinTop)
/-- x, y = a, b -/
theorem lb_par {τ1 τ2 : Type} {S1 : Stor τ1} {S2 : Stor τ2} {f : ((τ1 × τ2 × Unit) → P → Option Ω) → Option Ω} {fr : τ1 → τ2 → P → (J → Option Ω) → Option Ω} {px py pt : Pos} {kt k2 : Nat} {pt2 : Pos} (i j : Nat) (hN : X.N.Nodup) (hc : X.calm = true) (ha : LA X env [a, b] (fun p : τ1 × τ2 × Unit => [.st none τ1 S1 p.1, .st none τ2 S2 p.2.1]) e' f)
    (hr : ∀ x y p, LB X SR envR kr bk ct (((e' p).set i (.st none τ1 S1 x)).set j (.st none τ2 S2 y)) rest envJ (fr x y p))
    (hi : X.N[i]? = some nm := by rfl) (hj : X.N[j]? = some nm2 := by rfl) (hij : i ≠ j := by decide) (hx : X.env.scope.names.lookup nm = some .local := by rfl) (hy : X.env.scope.names.lookup nm2 = some .local := by rfl)
    (hli : ∀ p, i < (e' p).length := by exact (fun _ => Nat.lt_of_sub_eq_succ rfl)) (hlj : ∀ p, j < (e' p).length := by exact (fun _ => Nat.lt_of_sub_eq_succ rfl))
    (hw : swappedStores [.Tuple [.Name nm px, .Name nm2 py] kt pt] (.Tuple [a, b] k2 pt2) X.env = pure (some [nm, nm2]) := by rfl)
    (hs : swapsWithSole [.Tuple [.Name nm px, .Name nm2 py] kt pt] (.Tuple [a, b] k2 pt2) pos.line X.env = pure false := by rfl) :
    LB X SR envR kr bk ct env (.Assign [.Tuple [.Name nm px, .Name nm2 py] kt pt] (.Tuple [a, b] k2 pt2) pos :: rest) envJ (fun kn => f fun r p => fr r.1 r.2.1 p kn) :=
  fun C F H σs es σ kn ω D hK hl h hk qn qb qc qr => tSs.of X (pss_cons (ps_par hc hN hi hj hij hx hy (paC X) hw hs) (pssC X)) (ha C F H σs es σ _ ω _ hK hl h hk fun r p vs F' H' hk' hv h' => by
    match vs, hv with
    | [v, u], _ =>
      refine ⟨v, u, rfl, ?_⟩
      have h2 := ER.asg (σs := some u :: σs) (es := .st none τ2 S2 r.2.1 :: es) (σ := σ) (env := e' p) h' (by simp [hl]) (hli p)
      have h3 := ER.asg (σs := σs) (es := es) (σ := σ.set i (some v)) h2 hl (by simpa using hlj p)
      exact hr r.1 r.2.1 p C F' H' σs es _ kn ω D hK hl h3 hk' qn qb qc qr)
/-- from a law's call to its def's promise -/
theorem law_sp {K : Fg} {H : Hp} {a : Addr} {ns : List Int} {m : List Int × Unit → Option Bool} {Q : VK} {E : XK} (hS : SqL K H a (ns.map V.int)) (hm : m (ns, ()) = some true) (q : ∀ H', Q (.bl true) H') :
    spP K (fun a : List Int × Unit => [.st none (List Int) scr a.1]) (it eB) m [.ref a] H Q E := by
  refine ⟨H, H, (ns, ()), true, hm, rfl, ⟨fun _ _ e => e, fun _ _ e => e, fun _ m => .inl m, fun _ m => m, rfl, fun _ => [], fun i s e => ?_, fun i hi a ha => (nomatch ha), fun i j _ _ a ha => (nomatch ha), fun i _ => List.nodup_nil⟩, fun F' H' v h => ?_⟩
  · match i, e with
    | 0, e =>
      cases e
      exact ⟨_, rfl, ⟨rfl, a, rfl, hS⟩, fun _ m => nomatch m⟩
    | i + 1, e => simp at e
  · have hv : v = .bl true := by
      obtain ⟨v', fp, e1, r⟩ := h.look (i := 0) rfl
      simp at e1; subst e1
      obtain ⟨_, r⟩ := r
      cases r; rfl
    rw [hv]; exact q H'
end
end Z

set_option Elab.async false
set_option linter.all false
set_option maxRecDepth 100000
namespace Z
open PySem PySem.Spec PyProof.Rows L2

/-! ### the mirrors in plain words -/
section
variable {α β S Ω : Type}
theorem ixN_nat {n i : Nat} (h : i < n) : ixN n (i : Int) = some i := by
  unfold ixN
  rw [if_pos (by omega), if_pos (by omega), Int.toNat_natCast]
theorem atI_nat {xs : List α} {i : Nat} (h : i < xs.length) : atI xs (i : Int) = some xs[i] := by
  unfold atI
  rw [ixN_nat h]
  exact List.getElem?_eq_getElem h
theorem atI_pos {xs : List α} {i : Int} (h0 : 0 ≤ i) (h1 : i < xs.length) : ∃ (k : Nat) (h : k < xs.length), i = k ∧ atI xs i = some xs[k] :=
  by
  obtain ⟨k, rfl⟩ := Int.eq_ofNat_of_zero_le h0
  exact ⟨k, by omega, rfl, atI_nat (by omega)⟩
theorem rangeL_nat (n : Nat) : rangeL 0 (n : Int) = (List.range n).map fun i : Nat => ((i : Nat) : Int) := by
  unfold rangeL
  simp
theorem mem_rangeL {n : Nat} {x : Int} : x ∈ rangeL 0 (n : Int) ↔ ∃ i : Nat, i < n ∧ x = i := by
  rw [rangeL_nat]
  simp only [List.mem_map, List.mem_range]
  exact ⟨fun ⟨i, h, e⟩ => ⟨i, h, e.symm⟩, fun ⟨i, h, e⟩ => ⟨i, h, e.symm⟩⟩
theorem rgOk_nat {n : Nat} (h : n < 2 ^ 62) : rgOk 0 (n : Int) = true := by
  unfold rgOk
  have h2 : (n : Int) < 2 ^ 62 := by exact_mod_cast h
  exact decide_eq_true ⟨by decide, by decide, by omega, h2⟩
theorem mulOk_l {i j : Int} (h0 : 0 ≤ i) (h : i < 2 ^ 64) : mulOk i j = true := decide_eq_true (.inl ⟨by omega, h⟩)
theorem mulOk_r {i j : Int} (h0 : 0 ≤ j) (h : j < 2 ^ 64) : mulOk i j = true := decide_eq_true (.inr ⟨by omega, h⟩)
theorem divOk_pos {j : Int} (h0 : 0 < j) (h : j < 1073741824) : divOk j = true := decide_eq_true ⟨by omega, by omega⟩
theorem modOk_pos {j : Int} (h0 : 0 < j) : modOk j = true := decide_eq_true (by omega)
theorem ck_wp {b : Bool} {k : Option Ω} {ω : Ω} (h : b = true) (hk : k = some ω) : ck b k = some ω := by rw [h]; exact hk
theorem bind_wp {o : Option α} {k : α → Option Ω} {ω : Ω} {a : α} (h : o = some a) (hk : k a = some ω) : o.bind k = some ω := by rw [h]; exact hk
/-- a for, by an invariant over the turns -/
theorem forO_wpN {ω : Ω} (Inv : Nat → S → Prop) {b : α → S → (S → Option Ω) → Option Ω} {k : S → Option Ω} : ∀ (xs : List α) (n : Nat) (s : S), Inv n s →
    (∀ i s x, xs[i]? = some x → Inv (n + i) s → ∀ kc : S → Option Ω, (∀ s', Inv (n + i + 1) s' → kc s' = some ω) → b x s kc = some ω) → (∀ s, Inv (n + xs.length) s → k s = some ω) → forO xs s b k = some ω
  | [], n, s, h0, _, he => he s h0
  | x :: xs, n, s, h0, hs, he => hs 0 s x rfl h0 _ fun s' h' => forO_wpN Inv xs (n + 1) s' h'
      (fun i s y e h kc hk => hs (i + 1) s y e (by rw [show n + (i + 1) = n + 1 + i by omega]; exact h) kc fun s' h' => hk s' (by rw [show n + 1 + i + 1 = n + (i + 1) + 1 by omega]; exact h'))
      fun s h => he s (by rw [show n + (x :: xs).length = n + 1 + xs.length by simp; omega]; exact h)
/-- .. by one that stays -/
theorem forO_wp {ω : Ω} (Inv : S → Prop) {b : α → S → (S → Option Ω) → Option Ω} {k : S → Option Ω} {xs : List α} {s : S} (h0 : Inv s)
    (hs : ∀ s x, x ∈ xs → Inv s → ∀ kc : S → Option Ω, (∀ s', Inv s' → kc s' = some ω) → b x s kc = some ω) (he : ∀ s, Inv s → k s = some ω) : forO xs s b k = some ω :=
  forO_wpN (fun _ => Inv) xs 0 s h0 (fun i s x e h kc hk => hs s x (List.mem_of_getElem? e) h kc hk) he
theorem forO_fold (g : S → α → S) {b : α → S → (S → Option Ω) → Option Ω} {k : S → Option Ω} : ∀ (xs : List α) (s : S), (∀ x ∈ xs, ∀ s kc, b x s kc = kc (g s x)) → forO xs s b k = k (xs.foldl g s)
  | [], s, _ => rfl
  | x :: xs, s, h => (h x (List.mem_cons_self ..) s _).trans (forO_fold g xs (g s x) fun y m => h y (List.mem_cons_of_mem _ m))
/-- two walks that go alike: both end with one answer, or both go on -/
theorem forO_two {Pr : Ω → Prop} {b1 b2 : α → Unit → (Unit → Option Ω) → Option Ω} : ∀ (xs : List α), (∀ x ∈ xs, (∃ r, Pr r ∧ ∀ k1 k2, b1 x () k1 = some r ∧ b2 x () k2 = some r) ∨ (∀ k1 k2, b1 x () k1 = k1 () ∧ b2 x () k2 = k2 ())) →
    (∃ r, Pr r ∧ ∀ k1 k2, forO xs () b1 k1 = some r ∧ forO xs () b2 k2 = some r) ∨ (∀ k1 k2, forO xs () b1 k1 = k1 () ∧ forO xs () b2 k2 = k2 ())
  | [], _ => .inr fun _ _ => ⟨rfl, rfl⟩
  | x :: xs, h => by
    rcases h x (List.mem_cons_self ..) with ⟨r, hr, h1⟩ | h1
    · exact .inl ⟨r, hr, fun k1 k2 => h1 _ _⟩
    · rcases forO_two xs (fun y m => h y (List.mem_cons_of_mem _ m)) with ⟨r, hr, h2⟩ | h2
      · exact .inl ⟨r, hr, fun k1 k2 => ⟨(h1 (fun _ => forO xs () b1 k1) (fun _ => forO xs () b2 k2)).1.trans (h2 k1 k2).1, (h1 (fun _ => forO xs () b1 k1) (fun _ => forO xs () b2 k2)).2.trans (h2 k1 k2).2⟩⟩
      · exact .inr fun k1 k2 => ⟨(h1 (fun _ => forO xs () b1 k1) (fun _ => forO xs () b2 k2)).1.trans (h2 k1 k2).1, (h1 (fun _ => forO xs () b1 k1) (fun _ => forO xs () b2 k2)).2.trans (h2 k1 k2).2⟩
/-- a walk that always goes on -/
theorem forO_skip {b : α → Unit → (Unit → Option Ω) → Option Ω} {k : Unit → Option Ω} : ∀ (xs : List α), (∀ x ∈ xs, ∀ kc, b x () kc = kc ()) → forO xs () b k = k ()
  | [], _ => rfl
  | x :: xs, h => (h x (List.mem_cons_self ..) _).trans (forO_skip xs fun y m => h y (List.mem_cons_of_mem _ m))
/-- a comprehension, by an invariant -/
theorem compO_wp {ω : Ω} (Inv : S → Prop) (Pe : β → Prop) {b : α → S → (Option β → S → Option Ω) → Option Ω} {k : List β → S → Option Ω} : ∀ (xs : List α) (s : S) (acc : List β), Inv s → (∀ y ∈ acc, Pe y) → acc.length + xs.length ≤ SZ →
    (∀ s x, x ∈ xs → Inv s → ∀ kc : Option β → S → Option Ω, (∀ y s', Pe y → Inv s' → kc (some y) s' = some ω) → b x s kc = some ω) → (∀ ys s, ys.length = acc.length + xs.length → (∀ y ∈ ys, Pe y) → Inv s → k ys s = some ω) → compO xs s b acc k = some ω
  | [], s, acc, h0, ha, _, _, he => he acc s rfl ha h0
  | x :: xs, s, acc, h0, ha, hl, hs, he => hs s x (List.mem_cons_self ..) h0 _ fun y s' hy h' => by
    have hl' : acc.length + 1 + xs.length ≤ SZ := by simpa [Nat.add_assoc, Nat.add_comm 1] using hl
    refine ck_wp (decide_eq_true (by omega)) (compO_wp Inv Pe xs s' (acc ++ [y]) h' (fun z m => ?_) (by simpa using hl') (fun s z m => hs s z (List.mem_cons_of_mem _ m)) fun ys s e => he ys s (by simp at e ⊢; omega))
    rcases List.mem_append.1 m with m | m
    · exact ha z m
    · simp at m; subst m; exact hy
/-- .. that maps -/
theorem compO_map (g : α → β) {b : α → S → (Option β → S → Option Ω) → Option Ω} {k : List β → S → Option Ω} (s : S) : ∀ (xs : List α) (acc : List β), acc.length + xs.length ≤ SZ → (∀ x ∈ xs, ∀ kc, b x s kc = kc (some (g x)) s) → compO xs s b acc k = k (acc ++ xs.map g) s
  | [], acc, _, _ => by simp [compO]
  | x :: xs, acc, hl, h => by
    have hl' : acc.length + 1 + xs.length ≤ SZ := by simpa [Nat.add_assoc, Nat.add_comm 1] using hl
    refine (h x (List.mem_cons_self ..) _).trans ?_
    show ck _ _ = _
    rw [decide_eq_true (show acc.length < SZ by omega), ck_true, compO_map g s xs (acc ++ [g x]) (by simpa using hl') fun y m => h y (List.mem_cons_of_mem _ m)]
    simp
/-- .. that sifts and maps -/
theorem compO_filterMap (g : α → Option β) {b : α → S → (Option β → S → Option Ω) → Option Ω} {k : List β → S → Option Ω} (s : S) : ∀ (xs : List α) (acc : List β), acc.length + xs.length ≤ SZ → (∀ x ∈ xs, ∀ kc, b x s kc = kc (g x) s) → compO xs s b acc k = k (acc ++ xs.filterMap g) s
  | [], acc, _, _ => by simp [compO]
  | x :: xs, acc, hl, h => by
    have hl' : acc.length + 1 + xs.length ≤ SZ := by simpa [Nat.add_assoc, Nat.add_comm 1] using hl
    refine (h x (List.mem_cons_self ..) _).trans ?_
    cases e : g x with
    | some y =>
      show ck _ _ = _
      rw [decide_eq_true (show acc.length < SZ by omega), ck_true, compO_filterMap g s xs (acc ++ [y]) (by simpa using hl') fun y m => h y (List.mem_cons_of_mem _ m)]
      simp [e]
    | none =>
      show compO xs s b acc k = _
      rw [compO_filterMap g s xs acc (by omega) fun y m => h y (List.mem_cons_of_mem _ m)]
      simp [e]
end
/-! ### the drawing of the laws -/
def takeM (t0 : TSt) (a_most : Int) : Option (Int × TSt) :=
  ck (modOk (List.length t0.2 : Int)) (let v_at : Int := (Int.fmod t0.1 (List.length t0.2 : Int))
  (atI t0.2 v_at).bind fun y =>
  let v_cell : Int := y
  if (decide ((1000000000000000000 : Int) ≤ v_cell)) = true then (
    ck (divOk a_most) ((ixN (List.length t0.2) v_at).bind fun n =>
    let z : (List Int) := List.set t0.2 n (Int.fdiv v_cell a_most)
    ck (modOk a_most) (some ((Int.fmod v_cell a_most), (t0.1, z)))))
  else (
    let v_n : Int := (t0.1 + (1 : Int))
    ck (mulOk v_cell (48271 : Int)) (ck (mulOk v_n (69621 : Int)) (ck (modOk (2147483647 : Int)) (let v_mixed : Int := (Int.fmod ((v_cell * (48271 : Int)) + (v_n * (69621 : Int))) (2147483647 : Int))
    ck (mulOk v_mixed (16807 : Int)) (ck (mulOk v_n (7919 : Int)) (ck (modOk (1000000007 : Int)) (let v_mixed2 : Int := (Int.fmod ((v_mixed * (16807 : Int)) + (v_n * (7919 : Int))) (1000000007 : Int))
    ck (divOk (7 : Int)) (ck (modOk a_most) (some ((Int.fmod (Int.fdiv v_mixed2 (7 : Int)) a_most), (v_n, t0.2))))))))))))
theorem take_ok {t : TSt} {m : Int} (ht : t.2 ≠ []) (h0 : 0 < m) (h1 : m < 1073741824) : ∃ v t', takeM t m = some (v, t') ∧ 0 ≤ v ∧ v < m ∧ t'.2 ≠ [] := by
  have hl : 0 < t.2.length := List.length_pos_iff.2 ht
  have hl' : (0 : Int) < (t.2.length : Int) := by omega
  have a0 := Int.fmod_nonneg_of_pos t.1 hl'
  have a1 := Int.fmod_lt_of_pos t.1 hl'
  obtain ⟨k, hk, e, ea⟩ := atI_pos (xs := t.2) a0 a1
  unfold takeM
  rw [modOk_pos hl', ck_true]
  show ∃ v t', (atI t.2 (Int.fmod t.1 t.2.length)).bind _ = _ ∧ _
  rw [ea]
  show ∃ v t', (if (decide ((1000000000000000000 : Int) ≤ t.2[k])) = true then _ else _) = _ ∧ _
  by_cases c : (1000000000000000000 : Int) ≤ t.2[k]
  · rw [if_pos (decide_eq_true c), divOk_pos h0 h1, ck_true, e, ixN_nat hk]
    show ∃ v t', ck (modOk m) _ = _ ∧ _
    rw [modOk_pos h0, ck_true]
    refine ⟨_, _, rfl, Int.fmod_nonneg_of_pos _ h0, Int.fmod_lt_of_pos _ h0, fun z => ?_⟩
    exact ht (by simpa using z)
  · rw [if_neg (by simpa using c)]
    show ∃ v t', ck (mulOk _ 48271) (ck (mulOk _ 69621) (ck (modOk 2147483647) (ck (mulOk _ 16807) (ck (mulOk _ 7919) (ck (modOk 1000000007) (ck (divOk 7) (ck (modOk m) (some _)))))))) = _ ∧ _
    rw [mulOk_r (by decide) (by decide), mulOk_r (by decide) (by decide), mulOk_r (by decide) (by decide), mulOk_r (by decide) (by decide), modOk_pos (by decide), modOk_pos (by decide), divOk_pos (by decide) (by decide), modOk_pos h0]
    simp only [ck_true]
    exact ⟨_, _, rfl, Int.fmod_nonneg_of_pos _ h0, Int.fmod_lt_of_pos _ h0, ht⟩
theorem take_wp {Ω : Type} {t : TSt} {m : Int} {k : Int × TSt → Option Ω} {ω : Ω} (ht : t.2 ≠ []) (h0 : 0 < m) (h1 : m < 1073741824) (hk : ∀ v t', 0 ≤ v → v < m → t'.2 ≠ [] → k (v, t') = some ω) : (takeM t m).bind k = some ω := by
  obtain ⟨v, t', e, a, b, c⟩ := take_ok ht h0 h1
  exact bind_wp e (hk v t' a b c)
def stateM (a_script : List Int) : Option TSt :=
  compO (cutL a_script none (some (63 : Int))) () (fun x (t : Unit) kc => (
    kc (some (if x < 0 then -x else x)) ())) [] fun (ys : List Int) (t : Unit) => (
    let v_cells : (List Int) := ys
    let k := fun j : (List Int) => (
      some ((0 : Int), j))
    if (decide ((List.length v_cells : Int) = (0 : Int))) = true then (
      let v_cells2 : (List Int) := [(0 : Int)]
      k v_cells2)
    else (
      k v_cells))
theorem cutL_len {α : Type} (xs : List α) (a b : Option Int) : (cutL xs a b).length ≤ xs.length := by
  unfold cutL
  simp; omega
theorem state_ok {ns : List Int} (h : ns.length ≤ 63) : ∃ t, stateM ns = some t ∧ t.2 ≠ [] := by
  unfold stateM
  rw [compO_map (fun x : Int => if x < 0 then -x else x) () _ [] (by have := cutL_len ns none (some 63); show _ ≤ 16777216; simp; omega) (fun _ _ _ => rfl)]
  show ∃ t, (if decide _ = true then _ else _) = some t ∧ _
  split
  · exact ⟨_, rfl, by simp⟩
  · rename_i c
    exact ⟨_, rfl, fun z => c (decide_eq_true (by rw [show List.length _ = 0 from congrArg List.length z]; rfl))⟩
end Z


namespace My
open PySem PySem.Spec PyProof.Rows L2 Z
def topS (i : Nat) : Stmt := PySem.Challenge.pw_cutwright_k87_shared_amounts.main.body.getD i (.Pass ⟨0, 0, 0, 0⟩)
abbrev s_shared : Stmt := topS 1
abbrev s_shared_fault : Stmt := topS 2
abbrev s__law_state : Stmt := topS 4
abbrev s__law_take : Stmt := topS 5
abbrev s__law_shared : Stmt := topS 6
abbrev s__law_fault : Stmt := topS 7
abbrev s_law : Stmt := topS 8
structure Fa (K : Fg) (mg : Str → Option Value) where
  f_shared : Addr
  fd_shared : FuncData
  F_shared : Fun K "shared" "shared" s_shared f_shared fd_shared
  g_shared : mg "shared" = some (.ref f_shared)
  b_shared : Binds K fd_shared ["cents", "weights"] []
  f_shared_fault : Addr
  fd_shared_fault : FuncData
  F_shared_fault : Fun K "shared_fault" "shared_fault" s_shared_fault f_shared_fault fd_shared_fault
  g_shared_fault : mg "shared_fault" = some (.ref f_shared_fault)
  b_shared_fault : Binds K fd_shared_fault ["cents", "weights", "parts"] []
  f__law_state : Addr
  fd__law_state : FuncData
  F__law_state : Fun K "_law_state" "_law_state" s__law_state f__law_state fd__law_state
  g__law_state : mg "_law_state" = some (.ref f__law_state)
  b__law_state : Binds K fd__law_state ["script"] []
  f__law_take : Addr
  fd__law_take : FuncData
  F__law_take : Fun K "_law_take" "_law_take" s__law_take f__law_take fd__law_take
  g__law_take : mg "_law_take" = some (.ref f__law_take)
  b__law_take : Binds K fd__law_take ["state", "most"] []
  f__law_shared : Addr
  fd__law_shared : FuncData
  F__law_shared : Fun K "_law_shared" "_law_shared" s__law_shared f__law_shared fd__law_shared
  g__law_shared : mg "_law_shared" = some (.ref f__law_shared)
  b__law_shared : Binds K fd__law_shared ["cents", "weights"] []
  f__law_fault : Addr
  fd__law_fault : FuncData
  F__law_fault : Fun K "_law_fault" "_law_fault" s__law_fault f__law_fault fd__law_fault
  g__law_fault : mg "_law_fault" = some (.ref f__law_fault)
  b__law_fault : Binds K fd__law_fault ["cents", "weights", "parts"] []
  f_law : Addr
  fd_law : FuncData
  F_law : Fun K "law" "law" s_law f_law fd_law
  g_law : mg "law" = some (.ref f_law)
  b_law : Binds K fd_law ["script"] []
  z_abs : mg "abs" = none
  z_enumerate : mg "enumerate" = none
  z_int : mg "int" = none
  z_len : mg "len" = none
  z_list : mg "list" = none
  z_min : mg "min" = none
  z_range : mg "range" = none
  z_sorted : mg "sorted" = none
  z_sum : mg "sum" = none

def m_shared (a_cents : Int) (a_weights : (List Int)) : Option (List Int) :=
  let v_whole_1 : Int := (List.sum a_weights)
  if (decide (v_whole_1 = (0 : Int))) = true then (
    compO a_weights () (fun x7 (t6 : Unit) kc12 => (
      kc12 (some (0 : Int)) ())) [] fun (ys10 : List Int) (t11 : Unit) => (
      some ys10))
  else (
    compO a_weights () (fun x15 (t14 : Unit) kc22 => (
      ck (mulOk a_cents x15) (ck (divOk v_whole_1) (kc22 (some (Int.fdiv (a_cents * x15) v_whole_1)) ())))) [] fun (ys20 : List Int) (t21 : Unit) => (
      let v_parts_23 : (List Int) := ys20
      compO (enumL a_weights) () (fun x27 (t26 : Unit) kc40 => (
        ck (mulOk a_cents x27.2) ((atI v_parts_23 x27.1).bind fun y33 =>
        ck (mulOk y33 v_whole_1) (kc40 (some (((0 : Int) - ((a_cents * x27.2) - (y33 * v_whole_1))), x27.1)) ())))) [] fun (ys38 : List (Int × Int)) (t39 : Unit) => (
        let y41 := sortB (lt2 ltI ltI) ys38
        let v_rests_42 : (List (Int × Int)) := y41
        forO (cutL v_rests_42 none (some (a_cents - (List.sum v_parts_23)))) v_parts_23 (fun x48 (t47 : (List Int)) kc49 => (
          (atI t47 x48.2).bind fun y54 =>
          (ixN (List.length t47) x48.2).bind fun n61 =>
          let z60 : (List Int) := List.set t47 n61 (y54 + (1 : Int))
          kc49 z60))
          fun t62 : (List Int) => (
          some t62))))
def m_shared_fault (a_cents : Int) (a_weights : (List Int)) (a_parts : (List Int)) : Option PyData :=
  let v_whole_64 : Int := (List.sum a_weights)
  let k144 := fun z : Bool => (if z = true then (
    some (PyData.tuple [PyData.str ("form" : Str)]))
  else (
    if (decide (v_whole_64 = (0 : Int))) = true then (
      compO a_weights () (fun x81 (t80 : Unit) kc86 => (
        kc86 (some (0 : Int)) ())) [] fun (ys84 : List Int) (t85 : Unit) => (
        let k89 := fun z90 : PyData => (
          some z90)
        if (decide (a_parts = ys84)) = true then (k89 PyData.none) else (k89 (PyData.tuple [PyData.str ("sum" : Str)]))))
    else (
      if (!decide ((List.sum a_parts) = a_cents)) = true then (
        some (PyData.tuple [PyData.str ("sum" : Str)]))
      else (
        compO (enumL a_weights) () (fun x96 (t95 : Unit) kc106 => (
          (atI a_parts x96.1).bind fun y99 =>
          ck (mulOk y99 v_whole_64) (ck (mulOk a_cents x96.2) (kc106 (some ((y99 * v_whole_64) - (a_cents * x96.2))) ())))) [] fun (ys104 : List Int) (t105 : Unit) => (
          let v_gaps_107 : (List Int) := ys104
          ck (rgOk 0 (List.length a_parts : Int)) (forO (rangeL 0 (List.length a_parts : Int)) () (fun x111 (t110 : Unit) kc112 => (
            ck (rgOk 0 (List.length a_parts : Int)) (forO (rangeL 0 (List.length a_parts : Int)) () (fun x116 (t115 : Unit) kc117 => (
              (atI v_gaps_107 x111).bind fun y120 =>
              (atI v_gaps_107 x116).bind fun y123 =>
              let k138 := fun z : Bool => (if z = true then (
                some (PyData.tuple [PyData.str ("parts" : Str), PyData.int x111, PyData.int x116]))
              else (
                kc117 ()))
              if (decide (v_whole_64 < (y120 - y123))) = true then k138 true else ((atI v_gaps_107 x111).bind fun y127 =>
              (atI v_gaps_107 x116).bind fun y130 =>
              let k139 := fun z : Bool => (k138 z)
              if (decide ((y127 - y130) = v_whole_64)) = true then (k139 (decide (x116 < x111))) else k139 false)))
              fun t140 : Unit => (
              kc112 ()))))
            fun t142 : Unit => (
            some PyData.none)))))))
  if (!decide ((List.length a_parts : Int) = (List.length a_weights : Int))) = true then k144 true else (let z70 : (List Int) := a_parts
  let z71 : (List Int) := [(0 : Int)]
  ck (decide (List.length z70 + List.length z71 ≤ SZ)) ((minI (z70 ++ z71)).bind fun y72 =>
  k144 (decide (y72 < (0 : Int)))))
def m__law_state (a_script : List Int) : Option TSt :=
  compO (cutL a_script none (some (63 : Int))) () (fun x148 (t147 : Unit) kc153 => (
    kc153 (some (if x148 < 0 then -x148 else x148)) ())) [] fun (ys151 : List Int) (t152 : Unit) => (
    let v_cells_154 : (List Int) := ys151
    let k159 := fun j158 : (List Int) => (
      some ((0 : Int), j158))
    if (decide ((List.length v_cells_154 : Int) = (0 : Int))) = true then (
      let v_cells_161 : (List Int) := [(0 : Int)]
      k159 v_cells_161)
    else (
      k159 v_cells_154))
def m__law_take (t0 : TSt) (a_most : Int) : Option (Int × TSt) :=
  ck (modOk (List.length t0.2 : Int)) (let v_at_165 : Int := (Int.fmod t0.1 (List.length t0.2 : Int))
  (atI t0.2 v_at_165).bind fun y168 =>
  let v_cell_169 : Int := y168
  if (decide ((1000000000000000000 : Int) ≤ v_cell_169)) = true then (
    ck (divOk a_most) ((ixN (List.length t0.2) v_at_165).bind fun n180 =>
    let z178 : (List Int) := List.set t0.2 n180 (Int.fdiv v_cell_169 a_most)
    ck (modOk a_most) (some ((Int.fmod v_cell_169 a_most), (t0.1, z178)))))
  else (
    let v_n_184 : Int := (t0.1 + (1 : Int))
    ck (mulOk v_cell_169 (48271 : Int)) (ck (mulOk v_n_184 (69621 : Int)) (ck (modOk (2147483647 : Int)) (let v_mixed_190 : Int := (Int.fmod ((v_cell_169 * (48271 : Int)) + (v_n_184 * (69621 : Int))) (2147483647 : Int))
    ck (mulOk v_mixed_190 (16807 : Int)) (ck (mulOk v_n_184 (7919 : Int)) (ck (modOk (1000000007 : Int)) (let v_mixed_197 : Int := (Int.fmod ((v_mixed_190 * (16807 : Int)) + (v_n_184 * (7919 : Int))) (1000000007 : Int))
    ck (divOk (7 : Int)) (ck (modOk a_most) (some ((Int.fmod (Int.fdiv v_mixed_197 (7 : Int)) a_most), (v_n_184, t0.2))))))))))))
def m__law_shared (fu : Nat) (a_cents : Int) (a_weights : (List Int)) : Option (List Int) :=
  let v_whole_201 : Int := (List.sum a_weights)
  if (decide (v_whole_201 = (0 : Int))) = true then (
    compO a_weights () (fun x207 (t206 : Unit) kc212 => (
      kc212 (some (0 : Int)) ())) [] fun (ys210 : List Int) (t211 : Unit) => (
      some ys210))
  else (
    compO a_weights () (fun x215 (t214 : Unit) kc222 => (
      ck (mulOk a_cents x215) (ck (divOk v_whole_201) (kc222 (some (Int.fdiv (a_cents * x215) v_whole_201)) ())))) [] fun (ys220 : List Int) (t221 : Unit) => (
      let v_parts_223 : (List Int) := ys220
      let k265 := fun t264 : (List Int) => (
        some t264)
      whileO fu v_parts_223 fun (t225 : (List Int)) kc226 => (
        if (decide ((List.sum t225) < a_cents)) = true then (
          ck (rgOk 0 (List.length a_weights : Int)) (compO (rangeL 0 (List.length a_weights : Int)) () (fun x232 (t231 : Unit) kc247 => (
            (atI a_weights x232).bind fun y237 =>
            ck (mulOk a_cents y237) ((atI t225 x232).bind fun y240 =>
            ck (mulOk y240 v_whole_201) (kc247 (some (((0 : Int) - ((a_cents * y237) - (y240 * v_whole_201))), x232)) ())))) [] fun (ys245 : List (Int × Int)) (t246 : Unit) => (
            let v_rests_248 : (List (Int × Int)) := ys245
            (minB (lt2 ltI ltI) v_rests_248).bind fun y254 =>
            (atI t225 y254.2).bind fun y255 =>
            (minB (lt2 ltI ltI) v_rests_248).bind fun y262 =>
            (ixN (List.length t225) y262.2).bind fun n263 =>
            let z261 : (List Int) := List.set t225 n263 (y255 + (1 : Int))
            kc226 z261)))
        else k265 t225)))
def m__law_fault (a_cents : Int) (a_weights : (List Int)) (a_parts : (List Int)) : Option PyData :=
  let v_whole_266 : Int := (List.sum a_weights)
  let k332 := fun z : Bool => (if z = true then (
    some (PyData.tuple [PyData.str ("form" : Str)]))
  else (
    if (decide (v_whole_266 = (0 : Int))) = true then (
      let k287 := fun z288 : PyData => (
        some z288)
      if (decide ((List.sum a_parts) = (0 : Int))) = true then (k287 PyData.none) else (k287 (PyData.tuple [PyData.str ("sum" : Str)])))
    else (
      if (!decide ((List.sum a_parts) = a_cents)) = true then (
        some (PyData.tuple [PyData.str ("sum" : Str)]))
      else (
        ck (rgOk 0 (List.length a_parts : Int)) (forO (rangeL 0 (List.length a_parts : Int)) () (fun x294 (t293 : Unit) kc295 => (
          ck (rgOk 0 (List.length a_parts : Int)) (forO (rangeL 0 (List.length a_parts : Int)) () (fun x299 (t298 : Unit) kc300 => (
            (atI a_parts x294).bind fun y303 =>
            (atI a_parts x299).bind fun y306 =>
            ck (mulOk (y303 - y306) v_whole_266) ((atI a_weights x294).bind fun y311 =>
            (atI a_weights x299).bind fun y314 =>
            ck (mulOk a_cents (y311 - y314)) (let v_more_315 : Int := (((y303 - y306) * v_whole_266) - (a_cents * (y311 - y314)))
            let k326 := fun z : Bool => (if z = true then (
              some (PyData.tuple [PyData.str ("parts" : Str), PyData.int x294, PyData.int x299]))
            else (
              kc300 ()))
            if (decide (v_whole_266 < v_more_315)) = true then k326 true else (let k327 := fun z : Bool => (k326 z)
            if (decide (v_more_315 = v_whole_266)) = true then (k327 (decide (x299 < x294))) else k327 false)))))
            fun t328 : Unit => (
            kc295 ()))))
          fun t330 : Unit => (
          some PyData.none))))))
  if (!decide ((List.length a_parts : Int) = (List.length a_weights : Int))) = true then k332 true else (compO a_parts () (fun x272 (t271 : Unit) kc278 => (
    if (decide (x272 < (0 : Int))) = true then (kc278 (some x272) ()) else kc278 none ())) [] fun (ys276 : List Int) (t277 : Unit) => (
    k332 (decide ((0 : Int) < (List.length ys276 : Int)))))
def m_law (fu : Nat) (a_script : List Int) : Option Bool :=
  (m__law_state a_script).bind fun r334 =>
  let v_state_335 : TSt := r334
  ck (rgOk 0 (4 : Int)) (forO (rangeL 0 (4 : Int)) v_state_335 (fun x339 (t338 : TSt) kc340 => (
    (m__law_take t338 (9 : Int)).bind fun r343 =>
    (m__law_take r343.2 (1000 : Int)).bind fun r346 =>
    ck (powOk (10 : Int) (9 : Int)) ((m__law_take r346.2 ((10 : Int) ^ Int.toNat (9 : Int))).bind fun r350 =>
    (m__law_take r350.2 (3 : Int)).bind fun r354 =>
    (atI ([r343.1, r346.1, r350.1]) r354.1).bind fun y355 =>
    let v_cents_356 : Int := y355
    ck (powOk (10 : Int) (6 : Int)) ((m__law_take r354.2 (3 : Int)).bind fun r364 =>
    (atI ([(2 : Int), (9 : Int), ((10 : Int) ^ Int.toNat (6 : Int))]) r364.1).bind fun y365 =>
    let v_size_366 : Int := y365
    (m__law_take r364.2 (7 : Int)).bind fun r369 =>
    ck (rgOk 0 r369.1) (compO (rangeL 0 r369.1) r369.2 (fun x372 (t371 : TSt) kc379 => (
      (m__law_take t371 v_size_366).bind fun r375 =>
      kc379 (some r375.1) r375.2)) [] fun (ys377 : List Int) (t378 : TSt) => (
      let v_weights_380 : (List Int) := ys377
      let v_kept_382 : (List Int) := v_weights_380
      (m_shared v_cents_356 v_weights_380).bind fun r386 =>
      let v_parts_387 : (List Int) := r386
      (m__law_shared fu v_cents_356 v_weights_380).bind fun r392 =>
      let k469 := fun z : Bool => (if z = true then (
        some false)
      else (
        ck (rgOk 0 (4 : Int)) (forO (rangeL 0 (4 : Int)) t378 (fun x403 (t402 : TSt) kc404 => (
          let v_other_406 : (List Int) := v_parts_387
          let k411 := fun j410 : (TSt × (List Int)) => (
            (m_shared_fault v_cents_356 v_weights_380 j410.2).bind fun r460 =>
            (m__law_fault v_cents_356 v_weights_380 j410.2).bind fun r465 =>
            ck (SeqAt.shaped (eD.enc r460) && SeqAt.shaped (eD.enc r465)) (if (!PyData.eqv (eD.enc r460) (eD.enc r465)) = true then (
              some false)
            else (
              kc404 j410.1)))
          if (decide ((0 : Int) < (List.length v_other_406 : Int))) = true then (
            (m__law_take t402 (List.length v_other_406 : Int)).bind fun r413 =>
            (m__law_take r413.2 (List.length v_other_406 : Int)).bind fun r416 =>
            let x419 : Int := r413.1
            let y420 : Int := r416.1
            (atI v_other_406 x419).bind fun y424 =>
            (ixN (List.length v_other_406) x419).bind fun n456 =>
            let z430 : (List Int) := List.set v_other_406 n456 (y424 + (1 : Int))
            (atI z430 y420).bind fun y432 =>
            (m__law_take r416.2 (3 : Int)).bind fun r439 =>
            (atI ([(1 : Int), (1 : Int), (2 : Int)]) r439.1).bind fun y440 =>
            (ixN (List.length z430) y420).bind fun n455 =>
            let z445 : (List Int) := List.set z430 n455 (y432 - y440)
            (m__law_take r439.2 (6 : Int)).bind fun r447 =>
            let k453 := fun z454 : (List Int) => (
              let v_other_451 : (List Int) := z454
              k411 (r447.2, v_other_451))
            if (decide ((0 : Int) < r447.1)) = true then (k453 z445) else (k453 (cutL z445 (some (1 : Int)) none)))
          else (
            k411 (t402, v_other_406))))
          fun t467 : TSt => (
          kc340 t467))))
      if (!decide (v_parts_387 = r392)) = true then k469 true else (let k470 := fun z : Bool => (k469 z)
      if (!decide (v_weights_380 = v_kept_382)) = true then k470 true else ((m_shared_fault v_cents_356 v_weights_380 v_parts_387).bind fun r399 =>
      k470 (!isNone (eD.enc r399))))))))))
    fun t471 : TSt => (
    some true))
section
variable {P : Program} {w : World} {K : Fg} {mg : Str → Option Value} {base : Heap}
abbrev n_shared : List Str := ["cents", "weights", "whole", "_", "parts", "weight", "rests", "at", "rest"]
theorem sc_shared : FnScope n_shared ["cents", "weights"] (defScope s_shared) := ⟨rfl, rfl, rfl, by decide +kernel, rfl, by decide +kernel, by decide +kernel⟩
abbrev sp_shared (K : Fg) : Sp := spP K (fun a : Int × (List Int) × Unit => [.st none Int (it eI) a.1, .st none (List Int) (it (eL eI)) a.2.1]) (it (eL eI)) (fun a => m_shared a.1 a.2.1)
set_option maxHeartbeats 0 in
theorem ok_shared (fa : Fa K mg) : FnOk P w K mg base CX0 1 fa.f_shared fa.fd_shared ["cents", "weights"] (sp_shared K) := by
  refine fnP fa.F_shared sc_shared 7 rfl (fun _ => rfl) fun cdv A' outer s H E hr => ?_
  have nd := sc_shared.nd
  have hu := hr.units
  rintro ⟨a_cents, a_weights, _⟩
  exact lb_use (env := [.st none Int (it eI) a_cents, .st none (List Int) (it (eL eI)) a_weights, .un, .un, .un, .un, .un, .un, .un])
    (lb_set 2 nd (lx_sum rfl lm_sh.w fa.z_sum (lo_of (lx_var 1 cp_it rfl)) (fun _ => trivial)) (fun v_whole_1 p2 => (lb_ifr (lt_cmp (lc_eqI (lx_var 2 cp_it rfl) (fun p3 => lx_int)) (nomark _)) (fun p4 => (lb_ret (lx_sh (fz_ls fz_it) (lx_lc (envT := (fun t6 : Unit => [.st none Int (it eI) a_cents, .st none (List Int) (it (eL eI)) a_weights, .st none Int (it eI) v_whole_1, .un, .un, .un, .un, .un, .un])) rfl nd (blkOk_by (N := n_shared) (sc := defScope s_shared) (own := [("_", 3)]) (by decide +kernel)) (li_list lm_sh.w (lx_var 1 cp_it rfl)) (fun p5 => ()) (fun p5 => (Sub.refl _)) (by intro t i s hm he; simp at hm; subst hm; (have e := Option.some.inj he; exact e.symm)) (fun _ _ _ _ _ t6 => (lg_name 3 nd)) (fun _ _ _ _ _ t6 x7 => ltl_nil) (fun _ _ _ _ _ t6 x7 p8 => lx_int) (fun t6 x7 p8 p9 => ()) (fun t6 x7 p8 p9 => by exact (.keep (.keep (.keep (.drop (.keep (.keep (.keep (.keep (.keep Sub.nil)))))))))) (fun t6 x7 p8 => ()) (fun t6 x7 p8 => by exact (.keep (.keep (.keep (.drop (.keep (.keep (.keep (.keep (.keep Sub.nil)))))))))))) (fun _ => ()) (fun p => (.drop (.drop (.drop (.keep (.keep (.keep (.keep (.keep (.keep Sub.nil)))))))))))) (fun p4 => (lb_set 4 nd (lx_lc (envT := (fun t14 : Unit => [.st none Int (it eI) a_cents, .st none (List Int) (it (eL eI)) a_weights, .st none Int (it eI) v_whole_1, .un, .un, .un, .un, .un, .un])) rfl nd (blkOk_by (N := n_shared) (sc := defScope s_shared) (own := [("weight", 5)]) (by decide +kernel)) (li_list lm_sh.w (lx_var 1 cp_it rfl)) (fun p13 => ()) (fun p13 => (Sub.refl _)) (by intro t i s hm he; simp at hm; subst hm; (have e := Option.some.inj he; exact e.symm)) (fun _ _ _ _ _ t14 => (lg_name 5 nd)) (fun _ _ _ _ _ t14 x15 => ltl_nil) (fun _ _ _ _ _ t14 x15 p16 => (lx_fdiv (lx_mul (lx_var 0 cp_it rfl) (fun p17 => (lx_var 5 cp_it rfl))) (fun p18 => (lx_var 2 cp_it rfl)))) (fun t14 x15 p16 p19 => ()) (fun t14 x15 p16 p19 => by exact (.keep (.keep (.keep (.keep (.keep (.drop (.keep (.keep (.keep Sub.nil)))))))))) (fun t14 x15 p16 => ()) (fun t14 x15 p16 => by exact (.keep (.keep (.keep (.keep (.keep (.drop (.keep (.keep (.keep Sub.nil))))))))))) (fun v_parts_23 p24 => (lb_set 6 nd (lx_sorted hu (odT2 evI odI odI) soT2 (dtT2 dtI dtI) lm_ow.w fa.z_sorted (lo_of (lx_lc (envT := (fun t26 : Unit => [.st none Int (it eI) a_cents, .st none (List Int) (it (eL eI)) a_weights, .st none Int (it eI) v_whole_1, .un, .st none (List Int) (ls (it eI)) v_parts_23, .un, .un, .un, .un])) rfl nd (blkOk_by (N := n_shared) (sc := defScope s_shared) (own := [("at", 7), ("weight", 5)]) (by decide +kernel)) (li_enum (by rfl) fa.z_enumerate lm_sh.w (lx_var 1 cp_it rfl)) (fun p25 => ()) (fun p25 => (Sub.refl _)) (by intro t i s hm he; simp at hm; rcases hm with rfl | rfl <;> (have e := Option.some.inj he; exact e.symm)) (fun _ _ _ _ _ t26 => (lg_tup (E := (eT2 eI eI)) (lgs_cons (lg_name 7 nd) (fun _ => (lgs_cons (lg_name 5 nd) (fun _ => lgs_nil)))) (fun x => (x.1, x.2, ())) (fun a : Int × Int × Unit => [eI.enc (a.1), eI.enc (a.2.1)]) (fun _ => (.cons (.cons .nil))) (fun _ => rfl) rfl (fun _ => rfl))) (fun _ _ _ _ _ t26 x27 => ltl_nil) (fun _ _ _ _ _ t26 x27 p28 => (lx_tup (la_cons (lx_sub lx_int (fun p29 => (lx_sub (lx_mul (lx_var 0 cp_it rfl) (fun p30 => (lx_var 5 cp_it rfl))) (fun p31 => (lx_mul (lx_ix lm_ow.w (lo_var 4 rfl) (fun p32 => (lx_var 7 cp_it rfl)) (fun _ _ => rfl)) (fun p34 => (lx_var 2 cp_it rfl))))))) (fun p35 => (la_cons (lx_var 7 cp_it rfl) (fun p36 => la_nil)))) (eT2 eI eI) (fun a : Int × Int × Unit => (a.1, a.2.1)) (fun a => [eI.enc a.1, eI.enc a.2.1]) (fun _ => (.cons (.cons .nil))) (fun _ => rfl))) (fun t26 x27 p28 p37 => ()) (fun t26 x27 p28 p37 => by exact (.keep (.keep (.keep (.keep (.keep (.drop (.keep (.drop (.keep Sub.nil)))))))))) (fun t26 x27 p28 => ()) (fun t26 x27 p28 => by exact (.keep (.keep (.keep (.keep (.keep (.drop (.keep (.drop (.keep Sub.nil)))))))))))) (fun _ => trivial)) (fun v_rests_42 p43 => (lb_for (envT := (fun t47 : (List Int) => [.st none Int (it eI) a_cents, .st none (List Int) (it (eL eI)) a_weights, .st none Int (it eI) v_whole_1, .un, .st none (List Int) (ls (it eI)) t47, .un, .st none (List (Int × Int)) (it (eL (eT2 eI eI))) v_rests_42, .un, .un])) PassesOwn.never rfl (li_list lm_ow.w (lx_slR lm_sh.w (lx_frz 6 (fz_ls fz_it) rfl) (fun p44 => (lx_sub (lx_var 0 cp_it rfl) (fun p45 => (lx_sum rfl lm_ow.w fa.z_sum (lo_var 4 rfl) (fun _ => rfl))))))) (fun p46 => v_parts_23) (fun p46 => (Sub.refl _)) (fun t47 => (lg_tup (E := (eT2 eI eI)) (lgs_cons (lg_name 8 nd) (fun _ => (lgs_cons (lg_name 7 nd) (fun _ => lgs_nil)))) (fun x => (x.1, x.2, ())) (fun a : Int × Int × Unit => [eI.enc (a.1), eI.enc (a.2.1)]) (fun _ => (.cons (.cons .nil))) (fun _ => rfl) rfl (fun _ => rfl))) (fun x48 t47 kc49 kb50 => (lb_setix 4 (lx_add (lx_ix lm_ow.w (lo_var 4 rfl) (fun p53 => (lx_var 7 cp_it rfl)) (fun _ _ => rfl)) (fun p55 => lx_int)) (fun _ => rfl) (fun y56 p57 => (lx_var 7 cp_it rfl)) (fun _ _ _ => rfl) (fun y56 p57 j58 p59 z60 => (lb_end z60 (.keep (.keep (.keep (.keep (.keep (.keep (.keep (.drop (.drop Sub.nil))))))))))))) (fun t62 => (lb_ret (lx_frz 4 (fz_ls fz_it) rfl) (fun _ => ()) (fun p => (.drop (.drop (.drop (.keep (.drop (.keep (.drop (.keep (.keep Sub.nil)))))))))))))))))))))
    (by first | (unfold m_shared; dsimp only [id]; done) | (unfold m_shared; dsimp only [id]; rfl) | rfl)
abbrev n_shared_fault : List Str := ["cents", "weights", "parts", "whole", "_", "gaps", "at", "weight", "one", "other"]
theorem sc_shared_fault : FnScope n_shared_fault ["cents", "weights", "parts"] (defScope s_shared_fault) := ⟨rfl, rfl, rfl, by decide +kernel, rfl, by decide +kernel, by decide +kernel⟩
abbrev sp_shared_fault (K : Fg) : Sp := spP K (fun a : Int × (List Int) × (List Int) × Unit => [.st none Int (it eI) a.1, .st none (List Int) (it (eL eI)) a.2.1, .st none (List Int) (it (eL eI)) a.2.2.1]) (it eD) (fun a => m_shared_fault a.1 a.2.1 a.2.2.1)
set_option maxHeartbeats 0 in
theorem ok_shared_fault (fa : Fa K mg) : FnOk P w K mg base CX0 1 fa.f_shared_fault fa.fd_shared_fault ["cents", "weights", "parts"] (sp_shared_fault K) := by
  refine fnP fa.F_shared_fault sc_shared_fault 7 rfl (fun _ => rfl) fun cdv A' outer s H E hr => ?_
  have nd := sc_shared_fault.nd
  have hu := hr.units
  rintro ⟨a_cents, a_weights, a_parts, _⟩
  exact lb_use (env := [.st none Int (it eI) a_cents, .st none (List Int) (it (eL eI)) a_weights, .st none (List Int) (it (eL eI)) a_parts, .un, .un, .un, .un, .un, .un, .un])
    (lb_set 3 nd (lx_sum rfl lm_sh.w fa.z_sum (lo_of (lx_var 1 cp_it rfl)) (fun _ => trivial)) (fun v_whole_64 p65 => (lb_ifr (lt_w (lw_or (lt_cmp (lc_neI (lx_len lm_sh.w fa.z_len (lo_of (lx_var 2 cp_it rfl)) (fun _ => trivial)) (fun p66 => (lx_len lm_sh.w fa.z_len (lo_of (lx_var 1 cp_it rfl)) (fun _ => trivial)))) (nomark _)) (fun p67 => (lw_or1 (lt_cmp (lc_lt (lx_minI rfl lm_ow.w fa.z_min (lo_of (lx_cat lm_sh lm_ow (lo_of (lx_var 2 cp_it rfl)) (fun p68 => (lo_of (lx_list (la_cons lx_int (fun p69 => la_nil)) eI (fun a : Int × Unit => [a.1]) (fun _ => (.cons .nil))))) (fun _ _ => trivial) (fun _ _ => trivial))) (fun _ => trivial)) (fun p73 => lx_int)) (nomark _)))) (fun p67 _ => Sub.refl _))) (fun p74 => (lb_ret (lx_tup (la_cons lx_str (fun p75 => la_nil)) eD (fun a : Str × Unit => PyData.tuple [eS.enc a.1]) (fun a => [eS.enc a.1]) (fun _ => (.cons .nil)) (fun _ => rfl)) (fun _ => ()) (fun p => (.drop (.drop (.drop (.drop (.keep (.keep (.keep (.keep (.keep (.keep Sub.nil))))))))))))) (fun p74 => (lb_ifr (lt_cmp (lc_eqI (lx_var 3 cp_it rfl) (fun p76 => lx_int)) (nomark _)) (fun p77 => (lb_ret (lx_if (lt_cmp (lc_eqT hu dv_it (dv_ls dv_it) (dtL dtI) (evL evI) (lo_of (lx_var 2 cp_it rfl)) (fun p78 => (lo_of (lx_lc (envT := (fun t80 : Unit => [.st none Int (it eI) a_cents, .st none (List Int) (it (eL eI)) a_weights, .st none (List Int) (it (eL eI)) a_parts, .st none Int (it eI) v_whole_64, .un, .un, .un, .un, .un, .un])) rfl nd (blkOk_by (N := n_shared_fault) (sc := defScope s_shared_fault) (own := [("_", 4)]) (by decide +kernel)) (li_list lm_sh.w (lx_var 1 cp_it rfl)) (fun p79 => ()) (fun p79 => (Sub.refl _)) (by intro t i s hm he; simp at hm; subst hm; (have e := Option.some.inj he; exact e.symm)) (fun _ _ _ _ _ t80 => (lg_name 4 nd)) (fun _ _ _ _ _ t80 x81 => ltl_nil) (fun _ _ _ _ _ t80 x81 p82 => lx_int) (fun t80 x81 p82 p83 => ()) (fun t80 x81 p82 p83 => by exact (.keep (.keep (.keep (.keep (.drop (.keep (.keep (.keep (.keep (.keep Sub.nil))))))))))) (fun t80 x81 p82 => ()) (fun t80 x81 p82 => by exact (.keep (.keep (.keep (.keep (.drop (.keep (.keep (.keep (.keep (.keep Sub.nil)))))))))))))) (fun _ _ => trivial) (fun _ _ => trivial)) (nomark _)) (fun p87 => (lx_as (E' := eD) lx_non eN.enc (fun _ => rfl))) (fun p87 => (lx_tup (la_cons lx_str (fun p88 => la_nil)) eD (fun a : Str × Unit => PyData.tuple [eS.enc a.1]) (fun a => [eS.enc a.1]) (fun _ => (.cons .nil)) (fun _ => rfl))) (fun p87 _ => Sub.refl _) (fun p87 _ => Sub.refl _)) (fun _ => ()) (fun p => (.drop (.drop (.drop (.drop (.keep (.keep (.keep (.keep (.keep (.keep Sub.nil))))))))))))) (fun p77 => (lb_ifr (lt_cmp (lc_neI (lx_sum rfl lm_sh.w fa.z_sum (lo_of (lx_var 2 cp_it rfl)) (fun _ => trivial)) (fun p91 => (lx_var 0 cp_it rfl))) (nomark _)) (fun p92 => (lb_ret (lx_tup (la_cons lx_str (fun p93 => la_nil)) eD (fun a : Str × Unit => PyData.tuple [eS.enc a.1]) (fun a => [eS.enc a.1]) (fun _ => (.cons .nil)) (fun _ => rfl)) (fun _ => ()) (fun p => (.drop (.drop (.drop (.drop (.keep (.keep (.keep (.keep (.keep (.keep Sub.nil))))))))))))) (fun p92 => (lb_setLc (envT := (fun t95 : Unit => [.st none Int (it eI) a_cents, .st none (List Int) (it (eL eI)) a_weights, .st none (List Int) (it (eL eI)) a_parts, .st none Int (it eI) v_whole_64, .un, .un, .un, .un, .un, .un])) rfl nd (blkOk_by (N := n_shared_fault) (sc := defScope s_shared_fault) (own := [("at", 6), ("weight", 7)]) (by decide +kernel)) 5 (li_enum (by rfl) fa.z_enumerate lm_sh.w (lx_var 1 cp_it rfl)) (fun p94 => ()) (fun p94 => (Sub.refl _)) (by intro t i s hm he; simp at hm; rcases hm with rfl | rfl <;> (have e := Option.some.inj he; exact e.symm)) (fun _ _ _ _ _ t95 => (lg_tup (E := (eT2 eI eI)) (lgs_cons (lg_name 6 nd) (fun _ => (lgs_cons (lg_name 7 nd) (fun _ => lgs_nil)))) (fun x => (x.1, x.2, ())) (fun a : Int × Int × Unit => [eI.enc (a.1), eI.enc (a.2.1)]) (fun _ => (.cons (.cons .nil))) (fun _ => rfl) rfl (fun _ => rfl))) (fun _ _ _ _ _ t95 x96 => ltl_nil) (fun _ _ _ _ _ t95 x96 p97 => (lx_sub (lx_mul (lx_ix lm_sh.w (lo_of (lx_var 2 cp_it rfl)) (fun p98 => (lx_var 6 cp_it rfl)) (fun _ _ => trivial)) (fun p100 => (lx_var 3 cp_it rfl))) (fun p101 => (lx_mul (lx_var 0 cp_it rfl) (fun p102 => (lx_var 7 cp_it rfl)))))) (fun t95 x96 p97 p103 => ()) (fun t95 x96 p97 p103 => by exact (.keep (.keep (.keep (.keep (.keep (.keep (.drop (.drop (.keep (.keep Sub.nil))))))))))) (fun t95 x96 p97 => ()) (fun t95 x96 p97 => by exact (.keep (.keep (.keep (.keep (.keep (.keep (.drop (.drop (.keep (.keep Sub.nil))))))))))) (fun v_gaps_107 p108 => (lb_for (envT := (fun t110 : Unit => [.st none Int (it eI) a_cents, .st none (List Int) (it (eL eI)) a_weights, .st none (List Int) (it (eL eI)) a_parts, .st none Int (it eI) v_whole_64, .un, .st none (List Int) (ls (it eI)) v_gaps_107, .un, .un, .un, .un])) PassesOwn.never rfl (li_range1 (by rfl) fa.z_range (lx_len lm_sh.w fa.z_len (lo_of (lx_var 2 cp_it rfl)) (fun _ => trivial))) (fun p109 => ()) (fun p109 => (Sub.refl _)) (fun t110 => (lg_name 8 nd)) (fun x111 t110 kc112 kb113 => (lb_for (envT := (fun t115 : Unit => [.st none Int (it eI) a_cents, .st none (List Int) (it (eL eI)) a_weights, .st none (List Int) (it (eL eI)) a_parts, .st none Int (it eI) v_whole_64, .un, .st none (List Int) (ls (it eI)) v_gaps_107, .un, .un, .st none Int (it eI) x111, .un])) PassesOwn.never rfl (li_range1 (by rfl) fa.z_range (lx_len lm_sh.w fa.z_len (lo_of (lx_var 2 cp_it rfl)) (fun _ => trivial))) (fun p114 => ()) (fun p114 => (Sub.refl _)) (fun t115 => (lg_name 9 nd)) (fun x116 t115 kc117 kb118 => (lb_ifr (lt_w (lw_or (lt_cmp (lc_gt (lx_sub (lx_ix lm_ow.w (lo_var 5 rfl) (fun p119 => (lx_var 8 cp_it rfl)) (fun _ _ => rfl)) (fun p121 => (lx_ix lm_ow.w (lo_var 5 rfl) (fun p122 => (lx_var 9 cp_it rfl)) (fun _ _ => rfl)))) (fun p124 => (lx_var 3 cp_it rfl))) (nomark _)) (fun p125 => (lw_or1 (lt_w (lw_and (lt_cmp (lc_eqI (lx_sub (lx_ix lm_ow.w (lo_var 5 rfl) (fun p126 => (lx_var 8 cp_it rfl)) (fun _ _ => rfl)) (fun p128 => (lx_ix lm_ow.w (lo_var 5 rfl) (fun p129 => (lx_var 9 cp_it rfl)) (fun _ _ => rfl)))) (fun p131 => (lx_var 3 cp_it rfl))) (nomark _)) (fun p132 => (lw_and1 (lt_cmp (lc_gt (lx_var 8 cp_it rfl) (fun p133 => (lx_var 9 cp_it rfl))) (nomark _)))) (fun p132 _ => Sub.refl _))))) (fun p125 _ => Sub.refl _))) (fun p134 => (lb_ret (lx_tup (la_cons lx_str (fun p135 => (la_cons (lx_var 8 cp_it rfl) (fun p136 => (la_cons (lx_var 9 cp_it rfl) (fun p137 => la_nil)))))) eD (fun a : Str × Int × Int × Unit => PyData.tuple [eS.enc a.1, eI.enc a.2.1, eI.enc a.2.2.1]) (fun a => [eS.enc a.1, eI.enc a.2.1, eI.enc a.2.2.1]) (fun _ => (.cons (.cons (.cons .nil)))) (fun _ => rfl)) (fun _ => ()) (fun p => (.drop (.drop (.drop (.drop (.keep (.drop (.keep (.keep (.drop (.drop Sub.nil))))))))))))) (fun p134 => (lb_end () (.keep (.keep (.keep (.keep (.keep (.keep (.keep (.keep (.keep (.drop Sub.nil)))))))))))))) (fun t140 => (lb_end () (.keep (.keep (.keep (.keep (.keep (.keep (.keep (.keep (.drop (.keep Sub.nil)))))))))))))) (fun t142 => (lb_ret (lx_as (E' := eD) lx_non eN.enc (fun _ => rfl)) (fun _ => ()) (fun p => (.drop (.drop (.drop (.drop (.keep (.drop (.keep (.keep (.keep (.keep Sub.nil))))))))))))))) (sw_true rfl rfl rfl (by decide +kernel)))))))))))
    (by first | (unfold m_shared_fault; dsimp only [id]; done) | (unfold m_shared_fault; dsimp only [id]; rfl) | rfl)
abbrev n__law_state : List Str := ["script", "cells", "cell"]
theorem sc__law_state : FnScope n__law_state ["script"] (defScope s__law_state) := ⟨rfl, rfl, rfl, by decide +kernel, rfl, by decide +kernel, by decide +kernel⟩
abbrev sp__law_state (K : Fg) : Sp := spP K (fun a : List Int × Unit => [.st none (List Int) scr a.1]) stT (fun a => m__law_state a.1)
set_option maxHeartbeats 0 in
theorem ok__law_state (fa : Fa K mg) : FnOk P w K mg base CX0 1 fa.f__law_state fa.fd__law_state ["script"] (sp__law_state K) := by
  refine fnP fa.F__law_state sc__law_state 2 rfl (fun _ => rfl) fun cdv A' outer s H E hr => ?_
  have nd := sc__law_state.nd
  have hu := hr.units
  rintro ⟨a_script, _⟩
  exact lb_use (env := [.st none (List Int) scr a_script, .un, .un])
    (lb_setLc (envT := (fun t147 : Unit => [.st none (List Int) scr a_script, .un, .un])) rfl nd (blkOk_by (N := n__law_state) (sc := defScope s__law_state) (own := [("cell", 2)]) (by decide +kernel)) 1 (li_list lm_ow.w (lx_slR lv_scr (lx_var 0 cp_scr rfl) (fun p145 => lx_int))) (fun p146 => ()) (fun p146 => (Sub.refl _)) (by intro t i s hm he; simp at hm; subst hm; (have e := Option.some.inj he; exact e.symm)) (fun _ _ _ _ _ t147 => (lg_name 2 nd)) (fun _ _ _ _ _ t147 x148 => ltl_nil) (fun _ _ _ _ _ t147 x148 p149 => (lx_abs fa.z_abs (lx_var 2 cp_it rfl))) (fun t147 x148 p149 p150 => ()) (fun t147 x148 p149 p150 => by exact (.keep (.keep (.drop Sub.nil)))) (fun t147 x148 p149 => ()) (fun t147 x148 p149 => by exact (.keep (.keep (.drop Sub.nil)))) (fun v_cells_154 p155 => (lb_if (env1 := (fun j158 : (List Int) => [.st none (List Int) scr a_script, .st none (List Int) (ls (it eI)) j158, .un])) (lt_cmp (lc_eqI (lx_len lm_ow.w fa.z_len (lo_var 1 rfl) (fun _ => rfl)) (fun p156 => lx_int)) (nomark _)) (fun p157 => (lb_set 1 nd (lx_list (la_cons lx_int (fun p160 => la_nil)) eI (fun a : Int × Unit => [a.1]) (fun _ => (.cons .nil))) (fun v_cells_161 p162 => (lb_end v_cells_161 (Sub.refl _))))) (fun p157 => (lb_end v_cells_154 (Sub.refl _))) (fun j158 => (lb_ret (lx_st lx_int (fun p163 => (lx_move 1 rfl))) (fun _ => ()) (fun p => (.drop (.keep (.keep Sub.nil)))))))) (sw_true rfl rfl rfl (by decide +kernel)))
    (by first | (unfold m__law_state; dsimp only [id]; done) | (unfold m__law_state; dsimp only [id]; rfl) | rfl)
abbrev n__law_take : List Str := ["state", "most", "cells", "at", "cell", "mixed"]
theorem sc__law_take : FnScope n__law_take ["state", "most"] (defScope s__law_take) := ⟨rfl, rfl, rfl, by decide +kernel, rfl, by decide +kernel, by decide +kernel⟩
abbrev sp__law_take (K : Fg) : Sp := spI K stT (fun a : Int × Unit => [.st none Int (it eI) a.1]) (it eI) (fun t0 a => m__law_take t0 a.1)
set_option maxHeartbeats 0 in
theorem ok__law_take (fa : Fa K mg) : FnOk P w K mg base CX0 1 fa.f__law_take fa.fd__law_take ["state", "most"] (sp__law_take K) := by
  refine fnI fa.F__law_take sc__law_take 4 rfl (fun _ => rfl) fun cdv A' outer s H E hr => ?_
  have nd := sc__law_take.nd
  have hu := hr.units
  rintro v0 t0 ⟨a_most, _⟩
  exact lb_use (env := [.st (some v0) TSt stT t0, .st none Int (it eI) a_most, .un, .un, .un, .un])
    (lb_alias 0 2 nd rfl rfl (fun q => (lb_set 3 nd (lx_mod (lx_st0 0 rfl) (fun p164 => (lx_len lm_ow.w fa.z_len (lo_var 2 rfl) (fun _ => rfl)))) (fun v_at_165 p166 => (lb_set 4 nd (lx_ix lm_ow.w (lo_var 2 rfl) (fun p167 => (lx_var 3 cp_it rfl)) (fun _ _ => rfl)) (fun v_cell_169 p170 => (lb_ifr (lt_cmp (lc_ge (lx_var 4 cp_it rfl) (fun p171 => lx_int)) (nomark _)) (fun p172 => (lb_setix 2 (lx_fdiv (lx_var 4 cp_it rfl) (fun p173 => (lx_var 1 cp_it rfl))) (fun _ => rfl) (fun y174 p175 => (lx_var 3 cp_it rfl)) (fun _ _ _ => rfl) (fun y174 p175 j176 p177 z178 => (lb_join 0 2 rfl rfl (lb_ret (lx_mod (lx_var 4 cp_it rfl) (fun p179 => (lx_var 1 cp_it rfl))) (fun p => (t0.1, z178)) (fun p => (.keep (.drop (.keep (.drop (.drop (.keep Sub.nil)))))))))))) (fun p172 => (lb_st0 0 (lx_add (lx_st0 0 rfl) (fun p181 => lx_int)) (fun _ => rfl) (fun y182 p183 => (lb_set 5 nd (lx_mod (lx_int1 fa.z_int (lx_add (lx_mul (lx_var 4 cp_it rfl) (fun p186 => lx_int)) (fun p187 => (lx_mul (lx_st0 0 rfl) (fun p188 => lx_int))))) (fun p189 => lx_int)) (fun v_mixed_190 p191 => (lb_set 5 nd (lx_mod (lx_int1 fa.z_int (lx_add (lx_mul (lx_var 5 cp_it rfl) (fun p193 => lx_int)) (fun p194 => (lx_mul (lx_st0 0 rfl) (fun p195 => lx_int))))) (fun p196 => lx_int)) (fun v_mixed_197 p198 => (lb_join 0 2 rfl rfl (lb_ret (lx_mod (lx_fdiv (lx_var 5 cp_it rfl) (fun p199 => lx_int)) (fun p200 => (lx_var 1 cp_it rfl))) (fun p => (y182, t0.2)) (fun p => (.keep (.drop (.keep (.drop (.drop (.drop Sub.nil)))))))))))))))))))))))
    (by first | (unfold m__law_take; dsimp only [id]; done) | (unfold m__law_take; dsimp only [id]; rfl) | rfl)
abbrev n__law_shared : List Str := ["cents", "weights", "whole", "one", "parts", "rests", "k"]
theorem sc__law_shared : FnScope n__law_shared ["cents", "weights"] (defScope s__law_shared) := ⟨rfl, rfl, rfl, by decide +kernel, rfl, by decide +kernel, by decide +kernel⟩
abbrev sp__law_shared (K : Fg) (fu : Nat) : Sp := spP K (fun a : Int × (List Int) × Unit => [.st none Int (it eI) a.1, .st none (List Int) (it (eL eI)) a.2.1]) (it (eL eI)) (fun a => m__law_shared fu a.1 a.2.1)
set_option maxHeartbeats 0 in
theorem ok__law_shared (fa : Fa K mg) (fu : Nat) : FnOk P w K mg base CX0 1 fa.f__law_shared fa.fd__law_shared ["cents", "weights"] (sp__law_shared K fu) := by
  refine fnP fa.F__law_shared sc__law_shared 5 rfl (fun _ => rfl) fun cdv A' outer s H E hr => ?_
  have nd := sc__law_shared.nd
  have hu := hr.units
  rintro ⟨a_cents, a_weights, _⟩
  exact lb_use (env := [.st none Int (it eI) a_cents, .st none (List Int) (it (eL eI)) a_weights, .un, .un, .un, .un, .un])
    (lb_set 2 nd (lx_sum rfl lm_sh.w fa.z_sum (lo_of (lx_var 1 cp_it rfl)) (fun _ => trivial)) (fun v_whole_201 p202 => (lb_ifr (lt_cmp (lc_eqI (lx_var 2 cp_it rfl) (fun p203 => lx_int)) (nomark _)) (fun p204 => (lb_ret (lx_sh (fz_ls fz_it) (lx_lc (envT := (fun t206 : Unit => [.st none Int (it eI) a_cents, .st none (List Int) (it (eL eI)) a_weights, .st none Int (it eI) v_whole_201, .un, .un, .un, .un])) rfl nd (blkOk_by (N := n__law_shared) (sc := defScope s__law_shared) (own := [("one", 3)]) (by decide +kernel)) (li_list lm_sh.w (lx_var 1 cp_it rfl)) (fun p205 => ()) (fun p205 => (Sub.refl _)) (by intro t i s hm he; simp at hm; subst hm; (have e := Option.some.inj he; exact e.symm)) (fun _ _ _ _ _ t206 => (lg_name 3 nd)) (fun _ _ _ _ _ t206 x207 => ltl_nil) (fun _ _ _ _ _ t206 x207 p208 => lx_int) (fun t206 x207 p208 p209 => ()) (fun t206 x207 p208 p209 => by exact (.keep (.keep (.keep (.drop (.keep (.keep (.keep Sub.nil)))))))) (fun t206 x207 p208 => ()) (fun t206 x207 p208 => by exact (.keep (.keep (.keep (.drop (.keep (.keep (.keep Sub.nil)))))))))) (fun _ => ()) (fun p => (.drop (.drop (.drop (.keep (.keep (.keep (.keep Sub.nil)))))))))) (fun p204 => (lb_set 4 nd (lx_lc (envT := (fun t214 : Unit => [.st none Int (it eI) a_cents, .st none (List Int) (it (eL eI)) a_weights, .st none Int (it eI) v_whole_201, .un, .un, .un, .un])) rfl nd (blkOk_by (N := n__law_shared) (sc := defScope s__law_shared) (own := [("one", 3)]) (by decide +kernel)) (li_list lm_sh.w (lx_var 1 cp_it rfl)) (fun p213 => ()) (fun p213 => (Sub.refl _)) (by intro t i s hm he; simp at hm; subst hm; (have e := Option.some.inj he; exact e.symm)) (fun _ _ _ _ _ t214 => (lg_name 3 nd)) (fun _ _ _ _ _ t214 x215 => ltl_nil) (fun _ _ _ _ _ t214 x215 p216 => (lx_fdiv (lx_mul (lx_var 0 cp_it rfl) (fun p217 => (lx_var 3 cp_it rfl))) (fun p218 => (lx_var 2 cp_it rfl)))) (fun t214 x215 p216 p219 => ()) (fun t214 x215 p216 p219 => by exact (.keep (.keep (.keep (.drop (.keep (.keep (.keep Sub.nil)))))))) (fun t214 x215 p216 => ()) (fun t214 x215 p216 => by exact (.keep (.keep (.keep (.drop (.keep (.keep (.keep Sub.nil))))))))) (fun v_parts_223 p224 => (lb_while (envT := (fun t225 : (List Int) => [.st none Int (it eI) a_cents, .st none (List Int) (it (eL eI)) a_weights, .st none Int (it eI) v_whole_201, .un, .st none (List Int) (ls (it eI)) t225, .un, .un])) fu PassesOwn.never v_parts_223 (Sub.refl _) (fun t225 => (lt_cmp (lc_lt (lx_sum rfl lm_ow.w fa.z_sum (lo_var 4 rfl) (fun _ => rfl)) (fun p229 => (lx_var 0 cp_it rfl))) (nomark _))) (fun t225 p228 => Sub.refl _) (fun t225 p228 kc226 kb227 => (lb_setLc (envT := (fun t231 : Unit => [.st none Int (it eI) a_cents, .st none (List Int) (it (eL eI)) a_weights, .st none Int (it eI) v_whole_201, .un, .st none (List Int) (ls (it eI)) t225, .un, .un])) rfl nd (blkOk_by (N := n__law_shared) (sc := defScope s__law_shared) (own := [("k", 6)]) (by decide +kernel)) 5 (li_range1 (by rfl) fa.z_range (lx_len lm_sh.w fa.z_len (lo_of (lx_var 1 cp_it rfl)) (fun _ => trivial))) (fun p230 => ()) (fun p230 => (Sub.refl _)) (by intro t i s hm he; simp at hm; subst hm; (have e := Option.some.inj he; exact e.symm)) (fun _ _ _ _ _ t231 => (lg_name 6 nd)) (fun _ _ _ _ _ t231 x232 => ltl_nil) (fun _ _ _ _ _ t231 x232 p233 => (lx_tup (la_cons (lx_sub lx_int (fun p234 => (lx_sub (lx_mul (lx_var 0 cp_it rfl) (fun p235 => (lx_ix lm_sh.w (lo_of (lx_var 1 cp_it rfl)) (fun p236 => (lx_var 6 cp_it rfl)) (fun _ _ => trivial)))) (fun p238 => (lx_mul (lx_ix lm_ow.w (lo_var 4 rfl) (fun p239 => (lx_var 6 cp_it rfl)) (fun _ _ => rfl)) (fun p241 => (lx_var 2 cp_it rfl))))))) (fun p242 => (la_cons (lx_var 6 cp_it rfl) (fun p243 => la_nil)))) (eT2 eI eI) (fun a : Int × Int × Unit => (a.1, a.2.1)) (fun a => [eI.enc a.1, eI.enc a.2.1]) (fun _ => (.cons (.cons .nil))) (fun _ => rfl))) (fun t231 x232 p233 p244 => ()) (fun t231 x232 p233 p244 => by exact (.keep (.keep (.keep (.keep (.keep (.keep (.drop Sub.nil)))))))) (fun t231 x232 p233 => ()) (fun t231 x232 p233 => by exact (.keep (.keep (.keep (.keep (.keep (.keep (.drop Sub.nil)))))))) (fun v_rests_248 p249 => (lb_setix 4 (lx_add (lx_ix lm_ow.w (lo_var 4 rfl) (fun p253 => (lx_part part2_1 (lx_minD rfl hu (odT2 evI odI odI) (dtT2 dtI dtI) lm_ow.w fa.z_min (lo_var 5 rfl) (fun _ => rfl)))) (fun _ _ => rfl)) (fun p256 => lx_int)) (fun _ => rfl) (fun y257 p258 => (lx_part part2_1 (lx_minD rfl hu (odT2 evI odI odI) (dtT2 dtI dtI) lm_ow.w fa.z_min (lo_var 5 rfl) (fun _ => rfl)))) (fun _ _ _ => rfl) (fun y257 p258 j259 p260 z261 => (lb_end z261 (.keep (.keep (.keep (.keep (.keep (.drop (.keep Sub.nil))))))))))) (sw_true rfl rfl rfl (by decide +kernel)))) (fun t264 => (lb_ret (lx_frz 4 (fz_ls fz_it) rfl) (fun _ => ()) (fun p => (.drop (.drop (.drop (.keep (.drop (.keep (.keep Sub.nil)))))))))))))))))
    (by first | (unfold m__law_shared; dsimp only [id]; done) | (unfold m__law_shared; dsimp only [id]; rfl) | rfl)
abbrev n__law_fault : List Str := ["cents", "weights", "parts", "whole", "one", "i", "j", "more"]
theorem sc__law_fault : FnScope n__law_fault ["cents", "weights", "parts"] (defScope s__law_fault) := ⟨rfl, rfl, rfl, by decide +kernel, rfl, by decide +kernel, by decide +kernel⟩
abbrev sp__law_fault (K : Fg) : Sp := spP K (fun a : Int × (List Int) × (List Int) × Unit => [.st none Int (it eI) a.1, .st none (List Int) (it (eL eI)) a.2.1, .st none (List Int) (it (eL eI)) a.2.2.1]) (it eD) (fun a => m__law_fault a.1 a.2.1 a.2.2.1)
set_option maxHeartbeats 0 in
theorem ok__law_fault (fa : Fa K mg) : FnOk P w K mg base CX0 1 fa.f__law_fault fa.fd__law_fault ["cents", "weights", "parts"] (sp__law_fault K) := by
  refine fnP fa.F__law_fault sc__law_fault 5 rfl (fun _ => rfl) fun cdv A' outer s H E hr => ?_
  have nd := sc__law_fault.nd
  have hu := hr.units
  rintro ⟨a_cents, a_weights, a_parts, _⟩
  exact lb_use (env := [.st none Int (it eI) a_cents, .st none (List Int) (it (eL eI)) a_weights, .st none (List Int) (it (eL eI)) a_parts, .un, .un, .un, .un, .un])
    (lb_set 3 nd (lx_sum rfl lm_sh.w fa.z_sum (lo_of (lx_var 1 cp_it rfl)) (fun _ => trivial)) (fun v_whole_266 p267 => (lb_ifr (lt_w (lw_or (lt_cmp (lc_neI (lx_len lm_sh.w fa.z_len (lo_of (lx_var 2 cp_it rfl)) (fun _ => trivial)) (fun p268 => (lx_len lm_sh.w fa.z_len (lo_of (lx_var 1 cp_it rfl)) (fun _ => trivial)))) (nomark _)) (fun p269 => (lw_or1 (lt_cmp (lc_gt (lx_len lm_ow.w fa.z_len (lo_of (lx_lc (envT := (fun t271 : Unit => [.st none Int (it eI) a_cents, .st none (List Int) (it (eL eI)) a_weights, .st none (List Int) (it (eL eI)) a_parts, .st none Int (it eI) v_whole_266, .un, .un, .un, .un])) rfl nd (blkOk_by (N := n__law_fault) (sc := defScope s__law_fault) (own := [("one", 4)]) (by decide +kernel)) (li_list lm_sh.w (lx_var 2 cp_it rfl)) (fun p270 => ()) (fun p270 => (Sub.refl _)) (by intro t i s hm he; simp at hm; subst hm; (have e := Option.some.inj he; exact e.symm)) (fun _ _ _ _ _ t271 => (lg_name 4 nd)) (fun _ _ _ _ _ t271 x272 => (ltl_one (lt_cmp (lc_lt (lx_var 4 cp_it rfl) (fun p273 => lx_int)) (nomark _)))) (fun _ _ _ _ _ t271 x272 p274 => (lx_var 4 cp_it rfl)) (fun t271 x272 p274 p275 => ()) (fun t271 x272 p274 p275 => by exact (.keep (.keep (.keep (.keep (.drop (.keep (.keep (.keep Sub.nil))))))))) (fun t271 x272 p274 => ()) (fun t271 x272 p274 => by exact (.keep (.keep (.keep (.keep (.drop (.keep (.keep (.keep Sub.nil))))))))))) (fun _ => trivial)) (fun p279 => lx_int)) (nomark _)))) (fun p269 _ => Sub.refl _))) (fun p280 => (lb_ret (lx_tup (la_cons lx_str (fun p281 => la_nil)) eD (fun a : Str × Unit => PyData.tuple [eS.enc a.1]) (fun a => [eS.enc a.1]) (fun _ => (.cons .nil)) (fun _ => rfl)) (fun _ => ()) (fun p => (.drop (.drop (.drop (.drop (.keep (.keep (.keep (.keep Sub.nil))))))))))) (fun p280 => (lb_ifr (lt_cmp (lc_eqI (lx_var 3 cp_it rfl) (fun p282 => lx_int)) (nomark _)) (fun p283 => (lb_ret (lx_if (lt_cmp (lc_eqI (lx_sum rfl lm_sh.w fa.z_sum (lo_of (lx_var 2 cp_it rfl)) (fun _ => trivial)) (fun p284 => lx_int)) (nomark _)) (fun p285 => (lx_as (E' := eD) lx_non eN.enc (fun _ => rfl))) (fun p285 => (lx_tup (la_cons lx_str (fun p286 => la_nil)) eD (fun a : Str × Unit => PyData.tuple [eS.enc a.1]) (fun a => [eS.enc a.1]) (fun _ => (.cons .nil)) (fun _ => rfl))) (fun p285 _ => Sub.refl _) (fun p285 _ => Sub.refl _)) (fun _ => ()) (fun p => (.drop (.drop (.drop (.drop (.keep (.keep (.keep (.keep Sub.nil))))))))))) (fun p283 => (lb_ifr (lt_cmp (lc_neI (lx_sum rfl lm_sh.w fa.z_sum (lo_of (lx_var 2 cp_it rfl)) (fun _ => trivial)) (fun p289 => (lx_var 0 cp_it rfl))) (nomark _)) (fun p290 => (lb_ret (lx_tup (la_cons lx_str (fun p291 => la_nil)) eD (fun a : Str × Unit => PyData.tuple [eS.enc a.1]) (fun a => [eS.enc a.1]) (fun _ => (.cons .nil)) (fun _ => rfl)) (fun _ => ()) (fun p => (.drop (.drop (.drop (.drop (.keep (.keep (.keep (.keep Sub.nil))))))))))) (fun p290 => (lb_for (envT := (fun t293 : Unit => [.st none Int (it eI) a_cents, .st none (List Int) (it (eL eI)) a_weights, .st none (List Int) (it (eL eI)) a_parts, .st none Int (it eI) v_whole_266, .un, .un, .un, .un])) PassesOwn.never rfl (li_range1 (by rfl) fa.z_range (lx_len lm_sh.w fa.z_len (lo_of (lx_var 2 cp_it rfl)) (fun _ => trivial))) (fun p292 => ()) (fun p292 => (Sub.refl _)) (fun t293 => (lg_name 5 nd)) (fun x294 t293 kc295 kb296 => (lb_for (envT := (fun t298 : Unit => [.st none Int (it eI) a_cents, .st none (List Int) (it (eL eI)) a_weights, .st none (List Int) (it (eL eI)) a_parts, .st none Int (it eI) v_whole_266, .un, .st none Int (it eI) x294, .un, .un])) PassesOwn.never rfl (li_range1 (by rfl) fa.z_range (lx_len lm_sh.w fa.z_len (lo_of (lx_var 2 cp_it rfl)) (fun _ => trivial))) (fun p297 => ()) (fun p297 => (Sub.refl _)) (fun t298 => (lg_name 6 nd)) (fun x299 t298 kc300 kb301 => (lb_set 7 nd (lx_sub (lx_mul (lx_sub (lx_ix lm_sh.w (lo_of (lx_var 2 cp_it rfl)) (fun p302 => (lx_var 5 cp_it rfl)) (fun _ _ => trivial)) (fun p304 => (lx_ix lm_sh.w (lo_of (lx_var 2 cp_it rfl)) (fun p305 => (lx_var 6 cp_it rfl)) (fun _ _ => trivial)))) (fun p307 => (lx_var 3 cp_it rfl))) (fun p308 => (lx_mul (lx_var 0 cp_it rfl) (fun p309 => (lx_sub (lx_ix lm_sh.w (lo_of (lx_var 1 cp_it rfl)) (fun p310 => (lx_var 5 cp_it rfl)) (fun _ _ => trivial)) (fun p312 => (lx_ix lm_sh.w (lo_of (lx_var 1 cp_it rfl)) (fun p313 => (lx_var 6 cp_it rfl)) (fun _ _ => trivial)))))))) (fun v_more_315 p316 => (lb_ifr (lt_w (lw_or (lt_cmp (lc_gt (lx_var 7 cp_it rfl) (fun p317 => (lx_var 3 cp_it rfl))) (nomark _)) (fun p318 => (lw_or1 (lt_w (lw_and (lt_cmp (lc_eqI (lx_var 7 cp_it rfl) (fun p319 => (lx_var 3 cp_it rfl))) (nomark _)) (fun p320 => (lw_and1 (lt_cmp (lc_gt (lx_var 5 cp_it rfl) (fun p321 => (lx_var 6 cp_it rfl))) (nomark _)))) (fun p320 _ => Sub.refl _))))) (fun p318 _ => Sub.refl _))) (fun p322 => (lb_ret (lx_tup (la_cons lx_str (fun p323 => (la_cons (lx_var 5 cp_it rfl) (fun p324 => (la_cons (lx_var 6 cp_it rfl) (fun p325 => la_nil)))))) eD (fun a : Str × Int × Int × Unit => PyData.tuple [eS.enc a.1, eI.enc a.2.1, eI.enc a.2.2.1]) (fun a => [eS.enc a.1, eI.enc a.2.1, eI.enc a.2.2.1]) (fun _ => (.cons (.cons (.cons .nil)))) (fun _ => rfl)) (fun _ => ()) (fun p => (.drop (.drop (.drop (.drop (.keep (.drop (.drop (.drop Sub.nil))))))))))) (fun p322 => (lb_end () (.keep (.keep (.keep (.keep (.keep (.keep (.drop (.drop Sub.nil)))))))))))))) (fun t328 => (lb_end () (.keep (.keep (.keep (.keep (.keep (.drop (.keep (.keep Sub.nil)))))))))))) (fun t330 => (lb_ret (lx_as (E' := eD) lx_non eN.enc (fun _ => rfl)) (fun _ => ()) (fun p => (.drop (.drop (.drop (.drop (.keep (.keep (.keep (.keep Sub.nil))))))))))))))))))))
    (by first | (unfold m__law_fault; dsimp only [id]; done) | (unfold m__law_fault; dsimp only [id]; rfl) | rfl)
abbrev n_law : List Str := ["script", "state", "turn", "cents", "size", "weights", "k", "kept", "parts", "other", "at", "place"]
theorem sc_law : FnScope n_law ["script"] (defScope s_law) := ⟨rfl, rfl, rfl, by decide +kernel, rfl, by decide +kernel, by decide +kernel⟩
abbrev sp_law (K : Fg) (fu : Nat) : Sp := spP K (fun a : List Int × Unit => [.st none (List Int) scr a.1]) (it eB) (fun a => m_law fu a.1)
set_option maxHeartbeats 0 in
theorem ok_law (fa : Fa K mg) (fu : Nat) : FnOk P w K mg base CX0 2 fa.f_law fa.fd_law ["script"] (sp_law K fu) := by
  refine fnP fa.F_law sc_law 11 rfl (fun _ => rfl) fun cdv A' outer s H E hr => ?_
  have nd := sc_law.nd
  have hu := hr.units
  rintro ⟨a_script, _⟩
  exact lb_use (env := [.st none (List Int) scr a_script, .un, .un, .un, .un, .un, .un, .un, .un, .un, .un, .un])
    (lb_set 1 nd (lx_call (ok__law_state fa) (hr.mono (by decide)) fa.g__law_state fa.F__law_state.kp fa.b__law_state (fun _ => (.cons cp_scr .nil)) (la_cons (lx_var 0 cp_scr rfl) (fun p333 => la_nil))) (fun v_state_335 p336 => (lb_for (envT := (fun t338 : TSt => [.st none (List Int) scr a_script, .st none TSt stT t338, .un, .un, .un, .un, .un, .un, .un, .un, .un, .un])) PassesOwn.never rfl (li_range1 (by rfl) fa.z_range lx_int) (fun p337 => v_state_335) (fun p337 => (Sub.refl _)) (fun t338 => (lg_name 2 nd)) (fun x339 t338 kc340 kb341 => (lb_set 3 nd (lx_ix lm_ow.w (lo_of (lx_list (la_cons (lx_callI 1 (ok__law_take fa) (hr.mono (by decide)) fa.g__law_take fa.F__law_take.kp fa.b__law_take (fun _ => (.cons cp_it .nil)) rfl (la_cons lx_int (fun p342 => la_nil)) (fun _ => rfl)) (fun p344 => (la_cons (lx_callI 1 (ok__law_take fa) (hr.mono (by decide)) fa.g__law_take fa.F__law_take.kp fa.b__law_take (fun _ => (.cons cp_it .nil)) rfl (la_cons lx_int (fun p345 => la_nil)) (fun _ => rfl)) (fun p347 => (la_cons (lx_callI 1 (ok__law_take fa) (hr.mono (by decide)) fa.g__law_take fa.F__law_take.kp fa.b__law_take (fun _ => (.cons cp_it .nil)) rfl (la_cons (lx_pow lx_int (fun p348 => lx_int)) (fun p349 => la_nil)) (fun _ => rfl)) (fun p351 => la_nil)))))) eI (fun a : Int × Int × Int × Unit => [a.1, a.2.1, a.2.2.1]) (fun _ => (.cons (.cons (.cons .nil)))))) (fun p352 => (lx_callI 1 (ok__law_take fa) (hr.mono (by decide)) fa.g__law_take fa.F__law_take.kp fa.b__law_take (fun _ => (.cons cp_it .nil)) rfl (la_cons lx_int (fun p353 => la_nil)) (fun _ => rfl))) (fun _ _ => trivial)) (fun v_cents_356 p357 => (lb_set 4 nd (lx_ix lm_ow.w (lo_of (lx_list (la_cons lx_int (fun p358 => (la_cons lx_int (fun p359 => (la_cons (lx_pow lx_int (fun p360 => lx_int)) (fun p361 => la_nil)))))) eI (fun a : Int × Int × Int × Unit => [a.1, a.2.1, a.2.2.1]) (fun _ => (.cons (.cons (.cons .nil)))))) (fun p362 => (lx_callI 1 (ok__law_take fa) (hr.mono (by decide)) fa.g__law_take fa.F__law_take.kp fa.b__law_take (fun _ => (.cons cp_it .nil)) rfl (la_cons lx_int (fun p363 => la_nil)) (fun _ => rfl))) (fun _ _ => trivial)) (fun v_size_366 p367 => (lb_setLc (envT := (fun t371 : TSt => [.st none (List Int) scr a_script, .st none TSt stT t371, .st none Int (it eI) x339, .st none Int (it eI) v_cents_356, .st none Int (it eI) v_size_366, .un, .un, .un, .un, .un, .un, .un])) rfl nd (blkOk_by (N := n_law) (sc := defScope s_law) (own := [("k", 6)]) (by decide +kernel)) 5 (li_range1 (by rfl) fa.z_range (lx_callI 1 (ok__law_take fa) (hr.mono (by decide)) fa.g__law_take fa.F__law_take.kp fa.b__law_take (fun _ => (.cons cp_it .nil)) rfl (la_cons lx_int (fun p368 => la_nil)) (fun _ => rfl))) (fun p370 => p370.2) (fun p370 => (Sub.refl _)) (by intro t i s hm he; simp at hm; subst hm; (have e := Option.some.inj he; exact e.symm)) (fun _ _ _ _ _ t371 => (lg_name 6 nd)) (fun _ _ _ _ _ t371 x372 => ltl_nil) (fun _ _ _ _ _ t371 x372 p373 => (lx_callI 1 (ok__law_take fa) (hr.mono (by decide)) fa.g__law_take fa.F__law_take.kp fa.b__law_take (fun _ => (.cons cp_it .nil)) rfl (la_cons (lx_var 4 cp_it rfl) (fun p374 => la_nil)) (fun _ => rfl))) (fun t371 x372 p373 p376 => p376.2) (fun t371 x372 p373 p376 => by exact (.keep (.keep (.keep (.keep (.keep (.keep (.drop (.keep (.keep (.keep (.keep (.keep Sub.nil))))))))))))) (fun t371 x372 p373 => t371) (fun t371 x372 p373 => by exact (.keep (.keep (.keep (.keep (.keep (.keep (.drop (.keep (.keep (.keep (.keep (.keep Sub.nil))))))))))))) (fun v_weights_380 p381 => (lb_set 7 nd (lx_listof lm_ow.w fa.z_list (lo_var 5 rfl) (fun _ => rfl)) (fun v_kept_382 p383 => (lb_set 8 nd (lx_call (ok_shared fa) (hr.mono (by decide)) fa.g_shared fa.F_shared.kp fa.b_shared (fun _ => (.cons cp_it (.cons cp_it .nil))) (la_cons (lx_var 3 cp_it rfl) (fun p384 => (la_cons (lx_frz 5 (fz_ls fz_it) rfl) (fun p385 => la_nil))))) (fun v_parts_387 p388 => (lb_ifr (lt_w (lw_or (lt_cmp (lc_neT hu dv_it dv_it (dtL dtI) (evL evI) (lo_of (lx_var 8 cp_it rfl)) (fun p389 => (lo_of (lx_call (ok__law_shared fa fu) (hr.mono (by decide)) fa.g__law_shared fa.F__law_shared.kp fa.b__law_shared (fun _ => (.cons cp_it (.cons cp_it .nil))) (la_cons (lx_var 3 cp_it rfl) (fun p390 => (la_cons (lx_var 5 cp_it rfl) (fun p391 => la_nil))))))) (fun _ _ => trivial) (fun _ _ => trivial)) (nomark _)) (fun p393 => (lw_or (lt_cmp (lc_neT hu dv_it (dv_ls dv_it) (dtL dtI) (evL evI) (lo_of (lx_var 5 cp_it rfl)) (fun p394 => (lo_var 7 rfl)) (fun _ _ => trivial) (fun _ _ => rfl)) (nomark _)) (fun p395 => (lw_or1 (lt_cmp (lc_notN (lx_call (ok_shared_fault fa) (hr.mono (by decide)) fa.g_shared_fault fa.F_shared_fault.kp fa.b_shared_fault (fun _ => (.cons cp_it (.cons cp_it (.cons cp_it .nil)))) (la_cons (lx_var 3 cp_it rfl) (fun p396 => (la_cons (lx_var 5 cp_it rfl) (fun p397 => (la_cons (lx_var 8 cp_it rfl) (fun p398 => la_nil)))))))) (nomark _)))) (fun p395 _ => Sub.refl _))) (fun p393 _ => Sub.refl _))) (fun p400 => (lb_ret lx_bl (fun _ => ()) (fun p => (.drop (.drop (.drop (.drop (.drop (.drop (.keep (.drop (.drop (.keep (.keep (.keep Sub.nil))))))))))))))) (fun p400 => (lb_for (envT := (fun t402 : TSt => [.st none (List Int) scr a_script, .st none TSt stT t402, .st none Int (it eI) x339, .st none Int (it eI) v_cents_356, .st none Int (it eI) v_size_366, .st none (List Int) (it (eL eI)) v_weights_380, .un, .st none (List Int) (ls (it eI)) v_kept_382, .st none (List Int) (it (eL eI)) v_parts_387, .un, .un, .un])) PassesOwn.never rfl (li_range1 (by rfl) fa.z_range lx_int) (fun p401 => p381) (fun p401 => (Sub.refl _)) (fun t402 => (lg_name 6 nd)) (fun x403 t402 kc404 kb405 => (lb_set 9 nd (lx_listof lm_sh.w fa.z_list (lo_of (lx_var 8 cp_it rfl)) (fun _ => trivial)) (fun v_other_406 p407 => (lb_if (env1 := (fun j410 : (TSt × (List Int)) => [.st none (List Int) scr a_script, .st none TSt stT j410.1, .st none Int (it eI) x339, .st none Int (it eI) v_cents_356, .st none Int (it eI) v_size_366, .st none (List Int) (it (eL eI)) v_weights_380, .st none Int (it eI) x403, .st none (List Int) (ls (it eI)) v_kept_382, .st none (List Int) (it (eL eI)) v_parts_387, .st none (List Int) (it (eL eI)) j410.2, .un, .un])) (lt_cmp (lc_gt (lx_len lm_ow.w fa.z_len (lo_var 9 rfl) (fun _ => rfl)) (fun p408 => lx_int)) (nomark _)) (fun p409 => (lb_par 10 11 nd rfl (la_cons (lx_callI 1 (ok__law_take fa) (hr.mono (by decide)) fa.g__law_take fa.F__law_take.kp fa.b__law_take (fun _ => (.cons cp_it .nil)) rfl (la_cons (lx_len lm_ow.w fa.z_len (lo_var 9 rfl) (fun _ => rfl)) (fun p412 => la_nil)) (fun _ => rfl)) (fun p414 => (la_cons (lx_callI 1 (ok__law_take fa) (hr.mono (by decide)) fa.g__law_take fa.F__law_take.kp fa.b__law_take (fun _ => (.cons cp_it .nil)) rfl (la_cons (lx_len lm_ow.w fa.z_len (lo_var 9 rfl) (fun _ => rfl)) (fun p415 => la_nil)) (fun _ => rfl)) (fun p417 => la_nil)))) (fun x419 y420 p418 => (lb_setix 9 (lx_add (lx_ix lm_ow.w (lo_var 9 rfl) (fun p423 => (lx_var 10 cp_it rfl)) (fun _ _ => rfl)) (fun p425 => lx_int)) (fun _ => rfl) (fun y426 p427 => (lx_var 10 cp_it rfl)) (fun _ _ _ => rfl) (fun y426 p427 j428 p429 z430 => (lb_setix 9 (lx_sub (lx_ix lm_ow.w (lo_var 9 rfl) (fun p431 => (lx_var 11 cp_it rfl)) (fun _ _ => rfl)) (fun p433 => (lx_ix lm_ow.w (lo_of (lx_list (la_cons lx_int (fun p434 => (la_cons lx_int (fun p435 => (la_cons lx_int (fun p436 => la_nil)))))) eI (fun a : Int × Int × Int × Unit => [a.1, a.2.1, a.2.2.1]) (fun _ => (.cons (.cons (.cons .nil)))))) (fun p437 => (lx_callI 1 (ok__law_take fa) (hr.mono (by decide)) fa.g__law_take fa.F__law_take.kp fa.b__law_take (fun _ => (.cons cp_it .nil)) rfl (la_cons lx_int (fun p438 => la_nil)) (fun _ => rfl))) (fun _ _ => trivial)))) (fun _ => rfl) (fun y441 p442 => (lx_var 11 cp_it rfl)) (fun _ _ _ => rfl) (fun y441 p442 j443 p444 z445 => (lb_frz 9 (fz_ls fz_it) rfl (lb_set 9 nd (lx_if (lt_cmp (lc_gt (lx_callI 1 (ok__law_take fa) (hr.mono (by decide)) fa.g__law_take fa.F__law_take.kp fa.b__law_take (fun _ => (.cons cp_it .nil)) rfl (la_cons lx_int (fun p446 => la_nil)) (fun _ => rfl)) (fun p448 => lx_int)) (nomark _)) (fun p449 => (lx_var 9 cp_it rfl)) (fun p449 => (lx_sh (fz_ls fz_it) (lx_slL lm_sh.w (lx_var 9 cp_it rfl) (fun p450 => lx_int)))) (fun p449 _ => Sub.refl _) (fun p449 _ => Sub.refl _)) (fun v_other_451 p452 => (lb_end (p452.1.2, v_other_451) (.keep (.keep (.keep (.keep (.keep (.keep (.keep (.keep (.keep (.keep (.drop (.drop Sub.nil))))))))))))))))))))))) (fun p409 => (lb_frz 9 (fz_ls fz_it) rfl (lb_end (t402, v_other_406) (Sub.refl _)))) (fun j410 => (lb_ifr (lt_cmp (lc_neC hu dv_it dv_it (lo_of (lx_call (ok_shared_fault fa) (hr.mono (by decide)) fa.g_shared_fault fa.F_shared_fault.kp fa.b_shared_fault (fun _ => (.cons cp_it (.cons cp_it (.cons cp_it .nil)))) (la_cons (lx_var 3 cp_it rfl) (fun p457 => (la_cons (lx_var 5 cp_it rfl) (fun p458 => (la_cons (lx_var 9 cp_it rfl) (fun p459 => la_nil)))))))) (fun p461 => (lo_of (lx_call (ok__law_fault fa) (hr.mono (by decide)) fa.g__law_fault fa.F__law_fault.kp fa.b__law_fault (fun _ => (.cons cp_it (.cons cp_it (.cons cp_it .nil)))) (la_cons (lx_var 3 cp_it rfl) (fun p462 => (la_cons (lx_var 5 cp_it rfl) (fun p463 => (la_cons (lx_var 9 cp_it rfl) (fun p464 => la_nil))))))))) (fun _ _ => trivial) (fun _ _ => trivial)) (nomark _)) (fun p466 => (lb_ret lx_bl (fun _ => ()) (fun p => (.drop (.drop (.drop (.drop (.drop (.drop (.drop (.drop (.drop (.drop (.keep (.keep Sub.nil))))))))))))))) (fun p466 => (lb_end j410.1 (.keep (.keep (.keep (.keep (.keep (.keep (.drop (.keep (.keep (.drop (.keep (.keep Sub.nil)))))))))))))))))))) (fun t467 => (lb_end t467 (.keep (.keep (.drop (.drop (.drop (.drop (.keep (.drop (.drop (.keep (.keep (.keep Sub.nil)))))))))))))))))))))) (sw_true rfl rfl rfl (by decide +kernel)))))))) (fun t471 => (lb_ret lx_bl (fun _ => ()) (fun p => (.drop (.drop (.keep (.keep (.keep (.keep (.keep (.keep (.keep (.keep (.keep (.keep Sub.nil))))))))))))))))))
    (by first | (unfold m_law; dsimp only [id]; done) | (unfold m_law; dsimp only [id]; rfl) | rfl)
end
/-! ### shares in plain words -/
def r0 (c W : Int) (ws : List Int) (k : Nat) : Int := c * ws.getD k 0 - Int.fdiv (c * ws.getD k 0) W * W
theorem r0_bd {c W : Int} {ws : List Int} {k : Nat} (hW : 0 < W) : 0 ≤ r0 c W ws k ∧ r0 c W ws k < W := by
  unfold r0
  have h1 := Int.mul_fdiv_add_fmod (c * ws.getD k 0) W
  have h2 := Int.fmod_nonneg_of_pos (c * ws.getD k 0) hW
  have h3 := Int.fmod_lt_of_pos (c * ws.getD k 0) hW
  rw [Int.mul_comm] at h1
  omega
def fl (c W : Int) (ws : List Int) : List Int := ws.map fun x => Int.fdiv (c * x) W
theorem fl_get {c W : Int} {ws : List Int} {k : Nat} (h : k < ws.length) : (fl c W ws).getD k 0 = Int.fdiv (c * ws.getD k 0) W := by
  unfold fl
  simp [List.getD_eq_getElem?_getD, List.getElem?_eq_getElem h]
theorem fl_sum {c W : Int} (hW : 0 < W) : ∀ ws : List Int, W * (fl c W ws).sum ≤ c * ws.sum ∧ c * ws.sum ≤ W * (fl c W ws).sum + (W - 1) * (ws.length : Int)
  | [] => by simp [fl]
  | x :: ws => by
    obtain ⟨h1, h2⟩ := fl_sum (c := c) hW ws
    have e : (fl c W (x :: ws)).sum = Int.fdiv (c * x) W + (fl c W ws).sum := by simp [fl]
    have e1 := Int.mul_fdiv_add_fmod (c * x) W
    have e2 := Int.fmod_nonneg_of_pos (c * x) hW
    have e3 := Int.fmod_lt_of_pos (c * x) hW
    rw [e, List.sum_cons, Int.mul_add, Int.mul_add]
    have e4 : (W - 1) * ((x :: ws).length : Int) = (W - 1) * (ws.length : Int) + (W - 1) := by
      rw [List.length_cons, Int.natCast_add, Int.mul_add]; simp
    rw [e4]
    omega
theorem fl_d {c W : Int} {ws : List Int} (hW : 0 < W) (hs : ws.sum = W) : 0 ≤ c - (fl c W ws).sum ∧ c - (fl c W ws).sum < ws.length := by
  obtain ⟨h1, h2⟩ := fl_sum (c := c) hW ws
  rw [hs, Int.mul_comm c W] at h1 h2
  have hn : 0 < ws.length := by
    cases ws with
    | nil => simp at hs; omega
    | cons _ _ => simp
  refine ⟨by have := Int.le_of_mul_le_mul_left h1 hW; omega, Int.not_le.1 fun h => ?_⟩
  have h3 : W * (ws.length : Int) ≤ W * (c - (fl c W ws).sum) := Int.mul_le_mul_of_nonneg_left h (Int.le_of_lt hW)
  rw [Int.mul_sub] at h3
  rw [Int.sub_mul, Int.one_mul] at h2
  omega
abbrev lp : Int × Int → Int × Int → Bool := lt2 ltI ltI
theorem lp_iff {x y : Int × Int} : lp x y = true ↔ (x.1 < y.1 ∨ (x.1 = y.1 ∧ x.2 < y.2)) := by
  unfold lp lt2 ltI
  by_cases c : x.1 = y.1
  · rw [if_pos c, decide_eq_true_eq]; omega
  · rw [if_neg c, decide_eq_true_eq]; omega
theorem lp_no {x y : Int × Int} : lp x y = false ↔ ¬(x.1 < y.1 ∨ (x.1 = y.1 ∧ x.2 < y.2)) := by rw [← lp_iff]; simp
theorem minB_is {l : List (Int × Int)} {m : Int × Int} (hm : m ∈ l) (h : ∀ y ∈ l, lp y m = false) : minB lp l = some m := by
  have key : ∀ (l : List (Int × Int)) (a : Int × Int), (l.foldl (fun a y => if lp y a = true then y else a) a ∈ a :: l) ∧ ∀ y ∈ a :: l, lp y (l.foldl (fun a y => if lp y a = true then y else a) a) = false := by
    intro l
    induction l with
    | nil => intro a; refine ⟨by simp, fun y m => ?_⟩; simp at m; subst m; rw [List.foldl_nil, lp_no]; omega
    | cons b l ih =>
      intro a
      rw [List.foldl_cons]
      by_cases c : lp b a = true
      · rw [if_pos c]
        obtain ⟨i1, i2⟩ := ih b
        refine ⟨by rcases List.mem_cons.1 i1 with h | h <;> simp [h], fun y m => ?_⟩
        rcases List.mem_cons.1 m with rfl | m
        · have i3 := i2 b (by simp)
          rw [lp_no] at i3 ⊢
          rw [lp_iff] at c
          omega
        · exact i2 y m
      · rw [if_neg c]
        obtain ⟨i1, i2⟩ := ih a
        refine ⟨by rcases List.mem_cons.1 i1 with h | h <;> simp [h], fun y m => ?_⟩
        rcases List.mem_cons.1 m with rfl | m
        · exact i2 _ (by simp)
        · rcases List.mem_cons.1 m with rfl | m
          · have i3 := i2 a (by simp)
            have c' : lp y a = false := by simpa using c
            rw [lp_no] at i3 c' ⊢
            omega
          · exact i2 y (by simp [m])
  cases l with
  | nil => cases hm
  | cons a l =>
    obtain ⟨i1, i2⟩ := key l a
    show some _ = some m
    have h1 := h _ i1
    have h2 := i2 m hm
    rw [lp_no] at h1 h2
    exact congrArg some (Prod.ext (by omega) (by omega))
theorem sort_pw (l : List (Int × Int)) : (sortB lp l).Pairwise fun a b => lp b a = false := by
  have := List.pairwise_mergeSort (le := fun x y : Int × Int => !lp y x) (fun a b c h1 h2 => by
    simp only [Bool.not_eq_true'] at h1 h2 ⊢
    rw [lp_no] at h1 h2 ⊢; omega) (fun a b => by
    cases h : lp b a with
    | false => rfl
    | true =>
      have : lp a b = false := by
        rw [lp_iff] at h; rw [lp_no]; omega
      rw [this]; rfl) l
  exact this.imp fun h => by simpa using h
/-- one more for place k -/
def inc (ps : List Int) (x : Int × Int) : List Int := ps.set x.2.toNat (ps.getD x.2.toNat 0 + 1)
theorem inc_len {ps : List Int} {x : Int × Int} : (inc ps x).length = ps.length := by simp [inc]
theorem incs_len : ∀ (xs : List (Int × Int)) (ps : List Int), (xs.foldl inc ps).length = ps.length
  | [], _ => rfl
  | x :: xs, ps => (incs_len xs (inc ps x)).trans inc_len
theorem set_sum : ∀ (ps : List Int) (k : Nat), k < ps.length → (ps.set k (ps.getD k 0 + 1)).sum = ps.sum + 1
  | [], _, h => by simp at h
  | p :: ps, 0, _ => by simp; omega
  | p :: ps, k + 1, h => by
    have := set_sum ps k (by simpa using h)
    simp at this ⊢; omega
theorem incs_sum : ∀ (xs : List (Int × Int)) (ps : List Int), (∀ x ∈ xs, x.2.toNat < ps.length) → (xs.foldl inc ps).sum = ps.sum + xs.length
  | [], _, _ => by simp
  | x :: xs, ps, h => by
    rw [List.foldl_cons, incs_sum xs (inc ps x) (fun y m => by rw [inc_len]; exact h y (List.mem_cons_of_mem _ m))]
    unfold inc
    rw [set_sum ps _ (h x (List.mem_cons_self ..))]
    simp; omega
theorem inc_get {ps : List Int} {x : Int × Int} {k : Nat} (h : x.2.toNat < ps.length) : (inc ps x).getD k 0 = ps.getD k 0 + if x.2.toNat = k then 1 else 0 := by
  unfold inc
  simp only [List.getD_eq_getElem?_getD]
  rw [List.getElem?_set]
  by_cases c : x.2.toNat = k
  · rw [if_pos c, if_pos h, if_pos c, ← c]; rfl
  · rw [if_neg c, if_neg c]; omega
theorem incs_get {k : Nat} : ∀ (xs : List (Int × Int)) (ps : List Int), (∀ x ∈ xs, x.2.toNat < ps.length) → (xs.map fun x => x.2.toNat).Nodup → (xs.foldl inc ps).getD k 0 = ps.getD k 0 + if k ∈ xs.map (fun x => x.2.toNat) then 1 else 0
  | [], ps, _, _ => by simp
  | x :: xs, ps, h, nd => by
    rw [List.map_cons, List.nodup_cons] at nd
    rw [List.foldl_cons, incs_get xs (inc ps x) (fun y m => by rw [inc_len]; exact h y (List.mem_cons_of_mem _ m)) nd.2, inc_get (h x (List.mem_cons_self ..))]
    by_cases c : x.2.toNat = k
    · rw [if_pos c, if_neg (by rw [← c]; exact nd.1), if_pos (by rw [List.map_cons, c]; exact List.mem_cons_self ..)]; omega
    · by_cases d : k ∈ xs.map fun x => x.2.toNat
      · rw [if_neg c, if_pos d, if_pos (by rw [List.map_cons]; exact List.mem_cons_of_mem _ d)]; omega
      · rw [if_neg c, if_neg d, if_neg (by rw [List.map_cons, List.mem_cons]; exact fun z => z.elim (fun z => c z.symm) d)]; omega
theorem getD_at {xs : List Int} {k : Nat} (h : k < xs.length) : atI xs (k : Int) = some (xs.getD k 0) := by
  rw [atI_nat h]; simp [List.getD_eq_getElem?_getD, List.getElem?_eq_getElem h]
theorem enumL_mem {xs : List Int} {x : Int × Int} (h : x ∈ enumL xs) : ∃ k : Nat, k < xs.length ∧ x = ((k : Int), xs.getD k 0) := by
  obtain ⟨i, hi⟩ := List.getElem?_of_mem h
  rw [enumL_get] at hi
  cases e : xs[i]? with
  | none => rw [e] at hi; cases hi
  | some y =>
    rw [e] at hi; cases hi
    have hl : i < xs.length := by
      rcases Nat.lt_or_ge i xs.length with h | h
      · exact h
      · rw [List.getElem?_eq_none h] at e; cases e
    exact ⟨i, hl, by simp [List.getD_eq_getElem?_getD, e]⟩
theorem enumL_eq (xs : List Int) : enumL xs = (List.range xs.length).map fun k : Nat => (((k : Nat) : Int), xs.getD k 0) := by
  refine List.ext_getElem? fun i => ?_
  rw [enumL_get, List.getElem?_map]
  by_cases h : i < xs.length
  · rw [List.getElem?_range h]; simp [List.getElem?_eq_getElem h, List.getD_eq_getElem?_getD]
  · rw [List.getElem?_eq_none (by omega), List.getElem?_eq_none (by simp; omega)]; rfl
/-- the pairs that are sorted: what is over, turned, and the place -/
def R0 (c W : Int) (ws : List Int) : List (Int × Int) := (List.range ws.length).map fun k : Nat => (0 - r0 c W ws k, ((k : Nat) : Int))
theorem R0_mem {c W : Int} {ws : List Int} {x : Int × Int} : x ∈ sortB lp (R0 c W ws) ↔ ∃ k : Nat, k < ws.length ∧ x = (0 - r0 c W ws k, (k : Int)) := by
  unfold sortB
  rw [(List.mergeSort_perm _ _).mem_iff]
  unfold R0
  simp only [List.mem_map, List.mem_range]
  exact ⟨fun ⟨k, h, e⟩ => ⟨k, h, e.symm⟩, fun ⟨k, h, e⟩ => ⟨k, h, e.symm⟩⟩
theorem R0_nd {c W : Int} {ws : List Int} : ((sortB lp (R0 c W ws)).map fun x => x.2.toNat).Nodup := by
  unfold sortB
  rw [((List.mergeSort_perm _ _).map _).nodup_iff]
  unfold R0
  rw [List.map_map]
  have : ((fun x : Int × Int => x.2.toNat) ∘ fun k : Nat => (0 - r0 c W ws k, (k : Int))) = id := by funext k; simp
  rw [this, List.map_id]
  exact List.nodup_range
theorem R0_len {c W : Int} {ws : List Int} : (sortB lp (R0 c W ws)).length = ws.length := by
  unfold sortB
  rw [(List.mergeSort_perm _ _).length_eq]
  simp [R0]
/-- the first d have got one more -/
def sh (c W : Int) (ws : List Int) : List Int := ((sortB lp (R0 c W ws)).take (c - (fl c W ws).sum).toNat).foldl inc (fl c W ws)
theorem fl_len {c W : Int} {ws : List Int} : (fl c W ws).length = ws.length := by simp [fl]
/-- the least of what is left to give -/
theorem next_min {c W : Int} {ws : List Int} {pre t : List (Int × Int)} {h : Int × Int} (hW : 0 < W) (e : sortB lp (R0 c W ws) = pre ++ h :: t) :
    minB lp ((List.range ws.length).map fun k : Nat => (0 - (c * ws.getD k 0 - (pre.foldl inc (fl c W ws)).getD k 0 * W), ((k : Nat) : Int))) = some h := by
  have nd := R0_nd (c := c) (W := W) (ws := ws)
  rw [e, List.map_append, List.map_cons] at nd
  have nd1 := (List.nodup_append.1 nd).1
  have bd : ∀ x ∈ pre, x.2.toNat < (fl c W ws).length := fun x m => by
    obtain ⟨k, hk, rfl⟩ := R0_mem.1 (show x ∈ sortB lp (R0 c W ws) by rw [e]; exact List.mem_append_left _ m)
    rw [fl_len]; simpa using hk
  have val : ∀ k : Nat, k < ws.length → c * ws.getD k 0 - (pre.foldl inc (fl c W ws)).getD k 0 * W = r0 c W ws k - (if k ∈ pre.map (fun x => x.2.toNat) then W else 0) := fun k hk => by
    rw [incs_get pre _ bd nd1, fl_get hk, Int.add_mul]
    unfold r0
    by_cases d : k ∈ pre.map fun x => x.2.toNat
    · rw [if_pos d, if_pos d]; omega
    · rw [if_neg d, if_neg d]; omega
  obtain ⟨k, hk, rfl⟩ := R0_mem.1 (show h ∈ sortB lp (R0 c W ws) by rw [e]; simp)
  have hkn : k ∉ pre.map fun x => x.2.toNat := fun m => by
    have := (List.nodup_append.1 nd).2.2 k m k (by simp)
    exact this rfl
  have b1 := r0_bd (c := c) (ws := ws) (k := k) hW
  refine minB_is ?_ fun y hy => ?_
  · rw [List.mem_map]
    refine ⟨k, List.mem_range.2 hk, ?_⟩
    rw [val k hk, if_neg hkn]; simp
  · obtain ⟨j, hj, rfl⟩ := List.mem_map.1 hy
    rw [List.mem_range] at hj
    rw [val j hj]
    by_cases d : j ∈ pre.map fun x => x.2.toNat
    · rw [if_pos d, lp_no]
      have b2 := r0_bd (c := c) (ws := ws) (k := j) hW
      simp only; omega
    · rw [if_neg d]
      have hm : ((0 - r0 c W ws j, (j : Int)) : Int × Int) ∈ sortB lp (R0 c W ws) := R0_mem.2 ⟨j, hj, rfl⟩
      have pw := sort_pw (R0 c W ws)
      rw [e] at hm pw
      rcases List.mem_append.1 hm with m | m
      · exact absurd (List.mem_map.2 ⟨_, m, by simp⟩) d
      · rcases List.mem_cons.1 m with m | m
        · rw [Prod.mk.injEq] at m
          rw [lp_no]; simp only; omega
        · have := (List.pairwise_cons.1 (List.pairwise_append.1 pw).2.1).1 _ m
          simpa using this
/-- no two differ by too much -/
theorem sh_gap {c W : Int} {ws : List Int} {i j : Nat} (hW : 0 < W) (hi : i < ws.length) (hj : j < ws.length) :
    ¬ (W < ((sh c W ws).getD i 0 * W - c * ws.getD i 0) - ((sh c W ws).getD j 0 * W - c * ws.getD j 0) ∨ (((sh c W ws).getD i 0 * W - c * ws.getD i 0) - ((sh c W ws).getD j 0 * W - c * ws.getD j 0) = W ∧ j < i)) := by
  have nd := R0_nd (c := c) (W := W) (ws := ws)
  have pw := sort_pw (R0 c W ws)
  have sp := List.take_append_drop (c - (fl c W ws).sum).toNat (sortB lp (R0 c W ws))
  generalize hd : (c - (fl c W ws).sum).toNat = d at sp
  have hsh : sh c W ws = ((sortB lp (R0 c W ws)).take d).foldl inc (fl c W ws) := by unfold sh; rw [hd]
  rw [hsh]
  have sub : ∀ x ∈ (sortB lp (R0 c W ws)).take d, x ∈ sortB lp (R0 c W ws) := fun x m => List.mem_of_mem_take m
  have nd1 : (((sortB lp (R0 c W ws)).take d).map fun x => x.2.toNat).Nodup := by
    rw [← sp, List.map_append] at nd
    exact (List.nodup_append.1 nd).1
  have bd : ∀ x ∈ (sortB lp (R0 c W ws)).take d, x.2.toNat < (fl c W ws).length := fun x m => by
    obtain ⟨k, hk, rfl⟩ := R0_mem.1 (sub x m)
    rw [fl_len]; simpa using hk
  have val : ∀ k : Nat, k < ws.length → (((sortB lp (R0 c W ws)).take d).foldl inc (fl c W ws)).getD k 0 * W - c * ws.getD k 0 = (if k ∈ ((sortB lp (R0 c W ws)).take d).map (fun x => x.2.toNat) then W else 0) - r0 c W ws k := fun k hk => by
    rw [incs_get _ _ bd nd1, fl_get hk, Int.add_mul]
    unfold r0
    by_cases z : k ∈ ((sortB lp (R0 c W ws)).take d).map fun x => x.2.toNat
    · rw [if_pos z, if_pos z]; omega
    · rw [if_neg z, if_neg z]; omega
  rw [val i hi, val j hj]
  have bi := r0_bd (c := c) (ws := ws) (k := i) hW
  have bj := r0_bd (c := c) (ws := ws) (k := j) hW
  by_cases zi : i ∈ ((sortB lp (R0 c W ws)).take d).map fun x => x.2.toNat
  · by_cases zj : j ∈ ((sortB lp (R0 c W ws)).take d).map fun x => x.2.toNat
    · rw [if_pos zi, if_pos zj]; omega
    · rw [if_pos zi, if_neg zj]
      obtain ⟨x, mx, ex⟩ := List.mem_map.1 zi
      obtain ⟨k, hk, rfl⟩ := R0_mem.1 (sub x mx)
      have ek : k = i := by simpa using ex
      subst ek
      have hm : ((0 - r0 c W ws j, (j : Int)) : Int × Int) ∈ sortB lp (R0 c W ws) := R0_mem.2 ⟨j, hj, rfl⟩
      rw [← sp] at hm pw
      rcases List.mem_append.1 hm with m | m
      · exact absurd (List.mem_map.2 ⟨_, m, by simp⟩) zj
      · have := (List.pairwise_append.1 pw).2.2 _ mx _ m
        rw [lp_no] at this
        simp only at this
        omega
  · rw [if_neg zi]
    by_cases zj : j ∈ ((sortB lp (R0 c W ws)).take d).map fun x => x.2.toNat
    · rw [if_pos zj]; omega
    · rw [if_neg zj]; omega
theorem shared_zero {c : Int} {ws : List Int} (hl : ws.length ≤ 10) (hW : ws.sum = 0) : m_shared c ws = some (ws.map fun _ => 0) := by
  unfold m_shared
  dsimp only
  rw [if_pos (decide_eq_true hW)]
  exact compO_map (fun _ => (0 : Int)) () ws [] (by show _ ≤ 16777216; simp; omega) (fun _ _ _ => rfl)
theorem law_shared_zero {fu : Nat} {c : Int} {ws : List Int} (hl : ws.length ≤ 10) (hW : ws.sum = 0) : m__law_shared fu c ws = some (ws.map fun _ => 0) := by
  unfold m__law_shared
  dsimp only
  rw [if_pos (decide_eq_true hW)]
  exact compO_map (fun _ => (0 : Int)) () ws [] (by show _ ≤ 16777216; simp; omega) (fun _ _ _ => rfl)
theorem inc_loop {n : Nat} {Ω : Type} {k : List Int → Option Ω} : ∀ (xs : List (Int × Int)) (ps : List Int), ps.length = n → (∀ x ∈ xs, ∃ k : Nat, k < n ∧ x.2 = (k : Int)) →
    forO xs ps (fun x48 (t47 : (List Int)) kc49 => (atI t47 x48.2).bind fun y54 => (ixN (List.length t47) x48.2).bind fun n61 => kc49 (List.set t47 n61 (y54 + (1 : Int)))) k = k (xs.foldl inc ps)
  | [], _, _, _ => rfl
  | x :: xs, ps, hn, h => by
    obtain ⟨j, hj, e⟩ := h x (List.mem_cons_self ..)
    show ((atI ps x.2).bind _) = _
    rw [e, getD_at (by omega : j < ps.length)]
    show ((ixN ps.length (j : Int)).bind _) = _
    rw [ixN_nat (by omega : j < ps.length)]
    show forO xs (ps.set j (ps.getD j 0 + 1)) _ k = _
    have e2 : ps.set j (ps.getD j 0 + 1) = inc ps x := by unfold inc; rw [e]; simp
    rw [e2]
    exact inc_loop xs (inc ps x) (inc_len.trans hn) fun y m => h y (List.mem_cons_of_mem _ m)
theorem shared_pos {c : Int} {ws : List Int} (hc0 : 0 ≤ c) (hc : c < 2 ^ 64) (hl : ws.length ≤ 10) (hW : 0 < ws.sum) (hW2 : ws.sum < 1073741824) : m_shared c ws = some (sh c ws.sum ws) := by
  have hd := fl_d (c := c) hW rfl
  unfold m_shared
  dsimp only
  rw [if_neg (by simp; omega)]
  refine (compO_map (fun x => Int.fdiv (c * x) ws.sum) () ws [] (by show _ ≤ 16777216; simp; omega) (fun x _ kc => by rw [mulOk_l hc0 hc, ck_true, divOk_pos hW hW2, ck_true])).trans ?_
  rw [List.nil_append, show ws.map (fun x => Int.fdiv (c * x) ws.sum) = fl c ws.sum ws from rfl]
  have hW3 : ws.sum < 2 ^ 64 := by omega
  refine (compO_map (fun x : Int × Int => ((0 : Int) - (c * x.2 - (fl c ws.sum ws).getD x.1.toNat 0 * ws.sum), x.1)) () (enumL ws) [] (by rw [enumL_eq]; show _ ≤ 16777216; simp; omega) (fun x m kc => by
    obtain ⟨k, hk, rfl⟩ := enumL_mem m
    rw [mulOk_l hc0 hc, ck_true, getD_at (by rw [fl_len]; exact hk)]
    show ck (mulOk _ ws.sum) _ = _
    rw [mulOk_r (by omega) hW3, ck_true]
    simp)).trans ?_
  rw [List.nil_append]
  have eR : (enumL ws).map (fun x : Int × Int => ((0 : Int) - (c * x.2 - (fl c ws.sum ws).getD x.1.toNat 0 * ws.sum), x.1)) = R0 c ws.sum ws := by
    rw [enumL_eq, List.map_map]
    unfold R0
    refine List.map_congr_left fun k hk => ?_
    rw [List.mem_range] at hk
    simp only [Function.comp, Int.toNat_natCast]
    rw [fl_get hk]
    rfl
  rw [eR]
  have eC : cutL (sortB lp (R0 c ws.sum ws)) none (some (c - (fl c ws.sum ws).sum)) = (sortB lp (R0 c ws.sum ws)).take (c - (fl c ws.sum ws).sum).toNat := by
    unfold cutL
    have e : c - (fl c ws.sum ws).sum = ((c - (fl c ws.sum ws).sum).toNat : Int) := by omega
    rw [HT.sIx_none, e, HT.sIx_nat, List.drop_zero, Nat.sub_zero, Int.toNat_natCast, Nat.min_eq_left]
    rw [R0_len]; omega
  show forO (cutL (sortB lp (R0 c ws.sum ws)) none (some (c - (fl c ws.sum ws).sum))) _ _ _ = _
  rw [eC]
  exact inc_loop (n := ws.length) _ _ fl_len fun x m => by
    obtain ⟨k, hk, rfl⟩ := R0_mem.1 (List.mem_of_mem_take m)
    exact ⟨k, hk, rfl⟩
def stepB (c : Int) (ws : List Int) (t : List Int) (kc : List Int → Option (List Int)) : Option (List Int) :=
  if (decide ((List.sum t) < c)) = true then (
          ck (rgOk 0 (List.length ws : Int)) (compO (rangeL 0 (List.length ws : Int)) () (fun x232 (t231 : Unit) kc247 => (
            (atI ws x232).bind fun y237 =>
            ck (mulOk c y237) ((atI t x232).bind fun y240 =>
            ck (mulOk y240 ws.sum) (kc247 (some (((0 : Int) - ((c * y237) - (y240 * ws.sum))), x232)) ())))) [] fun (ys245 : List (Int × Int)) (t246 : Unit) => (
            (minB (lt2 ltI ltI) ys245).bind fun y254 =>
            (atI t y254.2).bind fun y255 =>
            (minB (lt2 ltI ltI) ys245).bind fun y262 =>
            (ixN (List.length t) y262.2).bind fun n263 =>
            kc (List.set t n263 (y255 + (1 : Int))))))
        else some t
theorem step_go {c : Int} {ws : List Int} {pre t : List (Int × Int)} {h : Int × Int} {kc : List Int → Option (List Int)} (hc0 : 0 ≤ c) (hc : c < 2 ^ 64) (hl : ws.length ≤ 10) (hW : 0 < ws.sum) (hW2 : ws.sum < 1073741824) (e : sortB lp (R0 c ws.sum ws) = pre ++ h :: t) (hs : (pre.foldl inc (fl c ws.sum ws)).sum < c) :
    stepB c ws (pre.foldl inc (fl c ws.sum ws)) kc = kc ((pre ++ [h]).foldl inc (fl c ws.sum ws)) := by
  have hn : (pre.foldl inc (fl c ws.sum ws)).length = ws.length := (incs_len ..).trans fl_len
  unfold stepB
  rw [if_pos (decide_eq_true hs), rgOk_nat (by omega), ck_true]
  refine (compO_map (fun x : Int => ((0 : Int) - (c * ws.getD x.toNat 0 - (pre.foldl inc (fl c ws.sum ws)).getD x.toNat 0 * ws.sum), x)) () _ [] (by rw [rangeL_nat]; show _ ≤ 16777216; simp; omega) (fun x m kc => by
    obtain ⟨k, hk, rfl⟩ := mem_rangeL.1 m
    rw [getD_at hk]
    show ck (mulOk c _) _ = _
    rw [mulOk_l hc0 hc, ck_true, getD_at (by omega)]
    show ck (mulOk _ ws.sum) _ = _
    rw [mulOk_r (by omega) (by omega), ck_true]
    simp)).trans ?_
  rw [List.nil_append, rangeL_nat, List.map_map]
  have eM := next_min (c := c) hW e
  have eL : (List.range ws.length).map ((fun x : Int => ((0 : Int) - (c * ws.getD x.toNat 0 - (pre.foldl inc (fl c ws.sum ws)).getD x.toNat 0 * ws.sum), x)) ∘ fun i : Nat => ((i : Nat) : Int)) = (List.range ws.length).map fun k : Nat => (0 - (c * ws.getD k 0 - (pre.foldl inc (fl c ws.sum ws)).getD k 0 * ws.sum), ((k : Nat) : Int)) :=
    List.map_congr_left fun k _ => by simp
  rw [eL]
  show ((minB lp _).bind _) = _
  rw [eM]
  obtain ⟨k, hk, rfl⟩ := R0_mem.1 (show h ∈ sortB lp (R0 c ws.sum ws) by rw [e]; simp)
  show ((atI _ (k : Int)).bind _) = _
  rw [getD_at (by omega)]
  show ((ixN _ (k : Int)).bind _) = _
  rw [ixN_nat (by omega), List.foldl_append]
  show kc _ = kc (inc _ _)
  unfold inc
  simp
theorem law_shared_pos {fu : Nat} {c : Int} {ws : List Int} (hfu : 20 ≤ fu) (hc0 : 0 ≤ c) (hc : c < 2 ^ 64) (hl : ws.length ≤ 10) (hW : 0 < ws.sum) (hW2 : ws.sum < 1073741824) : m__law_shared fu c ws = some (sh c ws.sum ws) := by
  have hd := fl_d (c := c) hW rfl
  unfold m__law_shared
  dsimp only
  rw [if_neg (by simp; omega)]
  refine (compO_map (fun x => Int.fdiv (c * x) ws.sum) () ws [] (by show _ ≤ 16777216; simp; omega) (fun x _ kc => by rw [mulOk_l hc0 hc, ck_true, divOk_pos hW hW2, ck_true])).trans ?_
  rw [List.nil_append, show ws.map (fun x => Int.fdiv (c * x) ws.sum) = fl c ws.sum ws from rfl]
  show whileO fu (fl c ws.sum ws) (stepB c ws) = _
  have key : ∀ (m fu : Nat) (pre post : List (Int × Int)), sortB lp (R0 c ws.sum ws) = pre ++ post → pre.length + m = (c - (fl c ws.sum ws).sum).toNat → m + 1 ≤ fu → whileO fu (pre.foldl inc (fl c ws.sum ws)) (stepB c ws) = some (sh c ws.sum ws) := by
    intro m
    induction m with
    | zero =>
      intro fu pre post e hm hf
      obtain ⟨f, rfl⟩ : ∃ f, fu = f + 1 := ⟨fu - 1, by omega⟩
      show stepB c ws _ _ = _
      have hs : (pre.foldl inc (fl c ws.sum ws)).sum = (fl c ws.sum ws).sum + pre.length := incs_sum _ _ fun x mx => by
        obtain ⟨k, hk, rfl⟩ := R0_mem.1 (show x ∈ sortB lp (R0 c ws.sum ws) by rw [e]; exact List.mem_append_left _ mx)
        rw [fl_len]; simpa using hk
      unfold stepB
      rw [if_neg (by simp; omega)]
      unfold sh
      rw [e, ← hm, Nat.add_zero, List.take_left]
    | succ m ih =>
      intro fu pre post e hm hf
      obtain ⟨f, rfl⟩ : ∃ f, fu = f + 1 := ⟨fu - 1, by omega⟩
      show stepB c ws _ _ = _
      have hs : (pre.foldl inc (fl c ws.sum ws)).sum = (fl c ws.sum ws).sum + pre.length := incs_sum _ _ fun x mx => by
        obtain ⟨k, hk, rfl⟩ := R0_mem.1 (show x ∈ sortB lp (R0 c ws.sum ws) by rw [e]; exact List.mem_append_left _ mx)
        rw [fl_len]; simpa using hk
      have hL := R0_len (c := c) (W := ws.sum) (ws := ws)
      rw [e, List.length_append] at hL
      cases post with
      | nil => simp at hL; omega
      | cons h t =>
        rw [step_go hc0 hc hl hW hW2 e (by omega)]
        exact ih f (pre ++ [h]) t (by rw [e]; simp) (by simp; omega) (by omega)
  exact key (c - (fl c ws.sum ws).sum).toNat fu [] _ rfl (by simp) (by omega)
/-! ### the two judges -/
theorem minI_neg {ps : List Int} : ∃ y, minI (ps ++ [0]) = some y ∧ (y < 0 ↔ ∃ x ∈ ps, x < 0) := by
  cases ps with
  | nil => exact ⟨0, rfl, by simp⟩
  | cons p ps =>
    have h := foldl_min_le (ps ++ [0]) p
    have hm : ∀ (l : List Int) (a : Int), l.foldl min a ∈ a :: l := by
      intro l
      induction l with
      | nil => intro a; simp
      | cons b l ih =>
        intro a
        rw [List.foldl_cons]
        rcases List.mem_cons.1 (ih (min a b)) with h | h
        · rw [h]; rcases Int.le_total a b with z | z
          · rw [Int.min_eq_left z]; simp
          · rw [Int.min_eq_right z]; simp
        · simp [h]
    refine ⟨_, rfl, fun hy => ?_, fun ⟨x, mx, hx⟩ => ?_⟩
    · rcases List.mem_cons.1 (hm (ps ++ [0]) p) with z | z
      · exact ⟨p, by simp, by rw [← z]; exact hy⟩
      · rcases List.mem_append.1 z with z | z
        · exact ⟨_, List.mem_cons_of_mem _ z, hy⟩
        · have z' := List.mem_singleton.1 z
          exact absurd hy (by show ¬ (List.foldl min p (ps ++ [0]) < 0); rw [z']; decide)
    · rcases List.mem_cons.1 mx with rfl | mx
      · exact Int.lt_of_le_of_lt h.1 hx
      · exact Int.lt_of_le_of_lt (h.2 x (List.mem_append_left _ mx)) hx
theorem sum_zero : ∀ {ps : List Int}, (∀ x ∈ ps, 0 ≤ x) → 0 ≤ ps.sum ∧ (ps.sum = 0 ↔ ps = ps.map fun _ => 0)
  | [], _ => by simp
  | p :: ps, h => by
    have h1 := sum_zero (ps := ps) fun x m => h x (List.mem_cons_of_mem _ m)
    have h2 := h p (List.mem_cons_self ..)
    rw [List.sum_cons, List.map_cons]
    refine ⟨by omega, fun e => ?_, fun e => ?_⟩
    · rw [show p = 0 by omega, ← h1.2.1 (by omega)]
    · rw [List.cons.injEq] at e
      have := h1.2.2 e.2
      omega
theorem gaps_go {Ω : Type} {c : Int} {ws ps : List Int} {k : List Int → Unit → Option Ω} (hc0 : 0 ≤ c) (hc : c < 2 ^ 64) (hl : ws.length ≤ 10) (hW : 0 ≤ ws.sum) (hW2 : ws.sum < 1073741824) (hn : ps.length = ws.length) :
    compO (enumL ws) () (fun x96 (t95 : Unit) kc106 => (atI ps x96.1).bind fun y99 => ck (mulOk y99 ws.sum) (ck (mulOk c x96.2) (kc106 (some ((y99 * ws.sum) - (c * x96.2))) ()))) [] k =
      k ((List.range ws.length).map fun j => ps.getD j 0 * ws.sum - c * ws.getD j 0) () := by
  refine (compO_map (fun x : Int × Int => ps.getD x.1.toNat 0 * ws.sum - c * x.2) () (enumL ws) [] (by rw [enumL_eq]; show _ ≤ 16777216; simp; omega) (fun x m kc => by
    obtain ⟨k, hk, rfl⟩ := enumL_mem m
    rw [getD_at (by omega)]
    show ck (mulOk _ ws.sum) _ = _
    rw [mulOk_r hW (by omega), ck_true, mulOk_l hc0 hc, ck_true]
    simp)).trans ?_
  rw [List.nil_append, enumL_eq, List.map_map]
  rfl
theorem gaps_at {f : Nat → Int} {n i : Nat} (h : i < n) : atI ((List.range n).map f) (i : Int) = some (f i) := by
  rw [Z.atI_nat (by simpa using h)]; simp
theorem filter_pos {ps : List Int} : (0 : Int) < ((ps.filterMap fun x => if x < 0 then some x else none).length : Int) ↔ ∃ x ∈ ps, x < 0 := by
  rw [show (0 : Int) < ((ps.filterMap fun x => if x < 0 then some x else none).length : Int) ↔ 0 < (ps.filterMap fun x => if x < 0 then some x else none).length by omega, List.length_pos_iff_exists_mem]
  simp only [List.mem_filterMap]
  exact ⟨fun ⟨a, x, m, e⟩ => ⟨x, m, by split at e <;> simp_all⟩, fun ⟨x, m, e⟩ => ⟨x, x, m, if_pos e⟩⟩
theorem fault_eq {c : Int} {ws ps : List Int} (hc0 : 0 ≤ c) (hc : c < 2 ^ 64) (hl : ws.length ≤ 10) (hW : 0 ≤ ws.sum) (hW2 : ws.sum < 1073741824) :
    ∃ r, SeqAt.shaped r = true ∧ m_shared_fault c ws ps = some r ∧ m__law_fault c ws ps = some r := by
  unfold m_shared_fault m__law_fault
  dsimp only
  by_cases hn : ps.length = ws.length
  · have hn' : (decide ((ps.length : Int) = (ws.length : Int))) = true := decide_eq_true (by omega)
    obtain ⟨y, hy, hy2⟩ := minI_neg (ps := ps)
    rw [hn', if_neg (show ¬ ((!true) = true) by decide), if_neg (show ¬ ((!true) = true) by decide), decide_eq_true (show ps.length + List.length [(0 : Int)] ≤ SZ by show _ ≤ 16777216; simp; omega), ck_true, hy]
    rw [compO_filterMap (fun x : Int => if x < 0 then some x else none) () ps [] (by show _ ≤ 16777216; simp; omega) (fun x _ kc => by
      by_cases z : x < 0
      · rw [if_pos (decide_eq_true z), if_pos z]
      · rw [if_neg (by simpa using z), if_neg z])]
    rw [List.nil_append]
    show ∃ r, _ ∧ (if decide (y < 0) = true then _ else _) = some r ∧ (if decide ((0 : Int) < _) = true then _ else _) = some r
    by_cases hneg : ∃ x ∈ ps, x < 0
    · rw [if_pos (decide_eq_true (hy2.2 hneg)), if_pos (decide_eq_true (filter_pos.2 hneg))]
      exact ⟨_, by decide +kernel, rfl, rfl⟩
    · rw [if_neg (show ¬ (decide (y < 0) = true) from fun z => hneg (hy2.1 (of_decide_eq_true z))), if_neg (show ¬ (decide ((0 : Int) < ((ps.filterMap fun x => if x < 0 then some x else none).length : Int)) = true) from fun z => hneg (filter_pos.1 (of_decide_eq_true z)))]
      have hpos : ∀ x ∈ ps, 0 ≤ x := fun x m => Int.not_lt.1 fun z => hneg ⟨x, m, z⟩
      have hz := sum_zero hpos
      by_cases h0 : ws.sum = 0
      · rw [if_pos (decide_eq_true h0), if_pos (decide_eq_true h0)]
        rw [compO_map (fun _ => (0 : Int)) () ws [] (by show _ ≤ 16777216; simp; omega) (fun _ _ _ => rfl)]
        have e : (ws.map fun _ => (0 : Int)) = ps.map fun _ => 0 := by
          rw [List.map_const', List.map_const', hn]
        rw [List.nil_append, e]
        by_cases g : ps.sum = 0
        · rw [if_pos (decide_eq_true (hz.2.1 g)), if_pos (decide_eq_true g)]
          exact ⟨_, by decide +kernel, rfl, rfl⟩
        · rw [if_neg (show ¬ (decide (ps = ps.map fun _ => (0 : Int)) = true) from fun z => g (hz.2.2 (of_decide_eq_true z))), if_neg (show ¬ (decide (ps.sum = 0) = true) from fun z => g (of_decide_eq_true z))]
          exact ⟨_, by decide +kernel, rfl, rfl⟩
      · rw [if_neg (show ¬ (decide (ws.sum = 0) = true) from fun z => h0 (of_decide_eq_true z)), if_neg (show ¬ (decide (ws.sum = 0) = true) from fun z => h0 (of_decide_eq_true z))]
        by_cases hs : ps.sum = c
        · rw [decide_eq_true hs, if_neg (show ¬ ((!true) = true) by decide), if_neg (show ¬ ((!true) = true) by decide)]
          rw [gaps_go hc0 hc hl hW hW2 hn, hn, rgOk_nat (by omega), ck_true, ck_true]
          have two := forO_two (Ω := PyData) (Pr := fun r => SeqAt.shaped r = true)
            (b1 := fun x111 (t110 : Unit) kc112 => (
            ck true (forO (rangeL 0 (ws.length : Int)) () (fun x116 (t115 : Unit) kc117 => (
              (atI ((List.range ws.length).map fun j => ps.getD j 0 * ws.sum - c * ws.getD j 0) x111).bind fun y120 =>
              (atI ((List.range ws.length).map fun j => ps.getD j 0 * ws.sum - c * ws.getD j 0) x116).bind fun y123 =>
              if (decide (ws.sum < (y120 - y123))) = true then (if true = true then (
                some (PyData.tuple [PyData.str ("parts" : Str), PyData.int x111, PyData.int x116]))
              else (
                kc117 ())) else ((atI ((List.range ws.length).map fun j => ps.getD j 0 * ws.sum - c * ws.getD j 0) x111).bind fun y127 =>
              (atI ((List.range ws.length).map fun j => ps.getD j 0 * ws.sum - c * ws.getD j 0) x116).bind fun y130 =>
              if (decide ((y127 - y130) = ws.sum)) = true then (if (decide (x116 < x111)) = true then (
                some (PyData.tuple [PyData.str ("parts" : Str), PyData.int x111, PyData.int x116]))
              else (
                kc117 ())) else (if false = true then (
                some (PyData.tuple [PyData.str ("parts" : Str), PyData.int x111, PyData.int x116]))
              else (
                kc117 ()))))) fun t140 : Unit => kc112 ())))
            (b2 := fun x294 (t293 : Unit) kc295 => (
          ck true (forO (rangeL 0 (ws.length : Int)) () (fun x299 (t298 : Unit) kc300 => (
            (atI ps x294).bind fun y303 =>
            (atI ps x299).bind fun y306 =>
            ck (mulOk (y303 - y306) ws.sum) ((atI ws x294).bind fun y311 =>
            (atI ws x299).bind fun y314 =>
            ck (mulOk c (y311 - y314)) (
            if (decide (ws.sum < (((y303 - y306) * ws.sum) - (c * (y311 - y314))))) = true then (if true = true then (
              some (PyData.tuple [PyData.str ("parts" : Str), PyData.int x294, PyData.int x299]))
            else (
              kc300 ())) else (
            if (decide ((((y303 - y306) * ws.sum) - (c * (y311 - y314))) = ws.sum)) = true then (if (decide (x299 < x294)) = true then (
              some (PyData.tuple [PyData.str ("parts" : Str), PyData.int x294, PyData.int x299]))
            else (
              kc300 ())) else (if false = true then (
              some (PyData.tuple [PyData.str ("parts" : Str), PyData.int x294, PyData.int x299]))
            else (
              kc300 ()))))))) fun t328 : Unit => kc295 ())))
            (rangeL 0 (ws.length : Int)) (fun x mx => by
              obtain ⟨i, hi, rfl⟩ := mem_rangeL.1 mx
              simp only [ck_true]
              refine (forO_two (Ω := PyData) (Pr := fun r => SeqAt.shaped r = true) (rangeL 0 (ws.length : Int)) fun z mz => ?_).imp (fun ⟨r, hr, h⟩ => ⟨r, hr, fun k1 k2 => h _ _⟩) (fun h k1 k2 => h _ _)
              obtain ⟨j, hj, rfl⟩ := mem_rangeL.1 mz
              rw [gaps_at hi, gaps_at hj, getD_at (by omega : i < ps.length), getD_at (by omega : j < ps.length), getD_at hi, getD_at hj]
              simp only [Option.bind_some]
              rw [mulOk_r hW (by omega), mulOk_l hc0 hc]
              simp only [ck_true]
              have em : (ps.getD i 0 - ps.getD j 0) * ws.sum - c * (ws.getD i 0 - ws.getD j 0) = (ps.getD i 0 * ws.sum - c * ws.getD i 0) - (ps.getD j 0 * ws.sum - c * ws.getD j 0) := by
                rw [Int.sub_mul, Int.mul_sub]; omega
              rw [em]
              generalize (ps.getD i 0 * ws.sum - c * ws.getD i 0) - (ps.getD j 0 * ws.sum - c * ws.getD j 0) = D
              have sh3 : SeqAt.shaped (PyData.tuple [PyData.str ("parts" : Str), PyData.int (i : Int), PyData.int (j : Int)]) = true := by
                have h : PyData.strOk ("parts" : Str) = true := by decide +kernel
                simp [SeqAt.shaped, PyData.canLay0, PyData.canLayAll0, PyData.depth, PyData.depthAll, h]
              by_cases q1 : ws.sum < D
              · exact .inl ⟨_, sh3, fun k1 k2 => by simp [q1]⟩
              · by_cases q2 : D = ws.sum
                · by_cases q3 : (j : Int) < (i : Int)
                  · exact .inl ⟨_, sh3, fun k1 k2 => by simp only [q1, q2, q3]; simp⟩
                  · exact .inr fun k1 k2 => by simp only [q1, q2, q3]; simp
                · exact .inr fun k1 k2 => by simp only [q1, q2]; simp)
          rcases two with ⟨r, hr, h⟩ | h
          · exact ⟨r, hr, (h (fun _ => some .none) (fun _ => some .none)).1, (h (fun _ => some .none) (fun _ => some .none)).2⟩
          · exact ⟨.none, by decide +kernel, (h (fun _ => some .none) (fun _ => some .none)).1, (h (fun _ => some .none) (fun _ => some .none)).2⟩
        · rw [decide_eq_false hs, if_pos (show (!false) = true by decide), if_pos (show (!false) = true by decide)]
          exact ⟨_, by decide +kernel, rfl, rfl⟩
  · have hn' : (decide ((ps.length : Int) = (ws.length : Int))) = false := decide_eq_false (by omega)
    rw [hn', if_pos (show (!false) = true by decide), if_pos (show (!false) = true by decide)]
    exact ⟨_, by decide +kernel, rfl, rfl⟩
theorem getD_pos {ps : List Int} (h : ∀ x ∈ ps, 0 ≤ x) (k : Nat) : 0 ≤ ps.getD k 0 := by
  rw [List.getD_eq_getElem?_getD]
  cases e : ps[k]? with
  | none => simp
  | some y => exact h y (List.mem_of_getElem? e)
theorem incs_pos : ∀ (xs : List (Int × Int)) (ps : List Int), (∀ x ∈ ps, 0 ≤ x) → ∀ x ∈ xs.foldl inc ps, 0 ≤ x
  | [], _, h => h
  | y :: xs, ps, h => incs_pos xs (inc ps y) fun x m => by
    rcases List.mem_or_eq_of_mem_set m with m | m
    · exact h x m
    · have := getD_pos h y.2.toNat; omega
theorem sh_pos {c W : Int} {ws : List Int} (hc0 : 0 ≤ c) (hW : 0 < W) (hw : ∀ x ∈ ws, 0 ≤ x) : ∀ x ∈ sh c W ws, 0 ≤ x := by
  unfold sh
  refine incs_pos _ _ fun x m => ?_
  obtain ⟨y, my, rfl⟩ := List.mem_map.1 m
  exact Int.fdiv_nonneg (Int.mul_nonneg hc0 (hw y my)) (Int.le_of_lt hW)
theorem sh_len {c W : Int} {ws : List Int} : (sh c W ws).length = ws.length := (incs_len ..).trans fl_len
theorem sh_sum {c : Int} {ws : List Int} (hW : 0 < ws.sum) : (sh c ws.sum ws).sum = c := by
  have hd := fl_d (c := c) hW rfl
  unfold sh
  rw [incs_sum _ _ fun x m => by
    obtain ⟨k, hk, rfl⟩ := R0_mem.1 (List.mem_of_mem_take m)
    rw [fl_len]; simpa using hk]
  rw [List.length_take, R0_len, Nat.min_eq_left (by omega)]
  omega
theorem fault_pre {c : Int} {ws ps : List Int} (hl : ws.length ≤ 10) (hn : ps.length = ws.length) (hp : ∀ x ∈ ps, 0 ≤ x) (h0 : ws.sum = 0) (hz : ps = ws.map fun _ => 0) : m_shared_fault c ws ps = some .none := by
  unfold m_shared_fault
  dsimp only
  obtain ⟨y, hy, hy2⟩ := minI_neg (ps := ps)
  rw [decide_eq_true (show (ps.length : Int) = (ws.length : Int) by omega), if_neg (show ¬ ((!true) = true) by decide), decide_eq_true (show ps.length + List.length [(0 : Int)] ≤ SZ by show _ ≤ 16777216; simp; omega), ck_true, hy]
  show (if decide (y < 0) = true then _ else _) = _
  rw [if_neg (show ¬ (decide (y < 0) = true) from fun z => by obtain ⟨x, m, hx⟩ := hy2.1 (of_decide_eq_true z); have := hp x m; omega)]
  rw [if_pos (decide_eq_true h0), compO_map (fun _ => (0 : Int)) () ws [] (by show _ ≤ 16777216; simp; omega) (fun _ _ _ => rfl), List.nil_append, if_pos (decide_eq_true hz)]
theorem fault_none {c : Int} {ws : List Int} (hc0 : 0 ≤ c) (hc : c < 2 ^ 64) (hl : ws.length ≤ 10) (hw : ∀ x ∈ ws, 0 ≤ x) (hW : 0 < ws.sum) (hW2 : ws.sum < 1073741824) : m_shared_fault c ws (sh c ws.sum ws) = some .none := by
  have hn := sh_len (c := c) (W := ws.sum) (ws := ws)
  have hp := sh_pos hc0 hW hw
  unfold m_shared_fault
  dsimp only
  obtain ⟨y, hy, hy2⟩ := minI_neg (ps := sh c ws.sum ws)
  rw [decide_eq_true (show ((sh c ws.sum ws).length : Int) = (ws.length : Int) by omega), if_neg (show ¬ ((!true) = true) by decide), decide_eq_true (show (sh c ws.sum ws).length + List.length [(0 : Int)] ≤ SZ by show _ ≤ 16777216; simp; omega), ck_true, hy]
  show (if decide (y < 0) = true then _ else _) = _
  rw [if_neg (show ¬ (decide (y < 0) = true) from fun z => by obtain ⟨x, m, hx⟩ := hy2.1 (of_decide_eq_true z); have := hp x m; omega)]
  rw [if_neg (show ¬ (decide (ws.sum = 0) = true) from fun z => by have := of_decide_eq_true z; omega), decide_eq_true (sh_sum hW), if_neg (show ¬ ((!true) = true) by decide)]
  rw [gaps_go hc0 hc hl (Int.le_of_lt hW) hW2 hn, hn, rgOk_nat (by omega), ck_true]
  refine forO_skip _ fun x mx kc => ?_
  obtain ⟨i, hi, rfl⟩ := mem_rangeL.1 mx
  rw [ck_true]
  refine forO_skip _ fun z mz kc => ?_
  obtain ⟨j, hj, rfl⟩ := mem_rangeL.1 mz
  rw [gaps_at hi, gaps_at hj]
  have g := sh_gap (c := c) hW hi hj
  simp only [Option.bind_some]
  generalize ((sh c ws.sum ws).getD i 0 * ws.sum - c * ws.getD i 0) - ((sh c ws.sum ws).getD j 0 * ws.sum - c * ws.getD j 0) = D at g
  by_cases q1 : ws.sum < D
  · exact absurd (.inl q1) g
  · by_cases q2 : D = ws.sum
    · by_cases q3 : (j : Int) < (i : Int)
      · exact absurd (.inr ⟨q2, by omega⟩) g
      · simp only [q1, q2, q3]; simp
    · simp only [q1, q2]; simp
theorem take_eq : m__law_take = takeM := rfl
theorem state_eq : m__law_state = stateM := rfl
theorem sum_bd : ∀ {ws : List Int} {m : Int}, (∀ x ∈ ws, 0 ≤ x ∧ x < m) → 0 ≤ ws.sum ∧ ws.sum ≤ m * (ws.length : Int)
  | [], m, _ => by simp
  | w :: ws, m, h => by
    have h1 := sum_bd (ws := ws) (m := m) fun x k => h x (List.mem_cons_of_mem _ k)
    have h2 := h w (List.mem_cons_self ..)
    rw [List.sum_cons, List.length_cons, Int.natCast_add, Int.mul_add]
    omega
theorem law_true (ns : List Int) (h : ns.length ≤ 63) : m_law 100000000 ns = some true := by
  obtain ⟨t, et, ht⟩ := state_ok h
  unfold m_law
  rw [state_eq, take_eq]
  refine bind_wp et ?_
  dsimp only
  refine ck_wp (by decide) (forO_wp (fun t : TSt => t.2 ≠ []) ht (fun t x mx ht kc hkc => ?_) fun t ht => rfl)
  refine take_wp ht (by decide) (by decide) fun v1 t1 a1 b1 ht => ?_
  refine take_wp ht (by decide) (by decide) fun v2 t2 a2 b2 ht => ?_
  refine ck_wp (by decide) (take_wp ht (by decide) (by decide) fun v3 t3 a3 b3 ht => ?_)
  refine take_wp ht (by decide) (by decide) fun v4 t4 a4 b4 ht => ?_
  have b3' : v3 < 1000000000 := b3
  obtain ⟨c, ec, c0, c1⟩ : ∃ c, atI [v1, v2, v3] v4 = some c ∧ 0 ≤ c ∧ c < 1000000000 := by
    have : v4 = 0 ∨ v4 = 1 ∨ v4 = 2 := by omega
    rcases this with rfl | rfl | rfl
    · exact ⟨v1, rfl, a1, by omega⟩
    · exact ⟨v2, rfl, a2, by omega⟩
    · exact ⟨v3, rfl, a3, b3'⟩
  refine bind_wp ec (ck_wp (by decide) (take_wp ht (by decide) (by decide) fun v5 t5 a5 b5 ht => ?_))
  obtain ⟨z, ez, z0, z1⟩ : ∃ z, atI [(2 : Int), 9, (10 : Int) ^ Int.toNat 6] v5 = some z ∧ 0 < z ∧ z ≤ 1000000 := by
    have : v5 = 0 ∨ v5 = 1 ∨ v5 = 2 := by omega
    rcases this with rfl | rfl | rfl
    · exact ⟨2, rfl, by decide, by decide⟩
    · exact ⟨9, rfl, by decide, by decide⟩
    · exact ⟨(10 : Int) ^ Int.toNat 6, rfl, by decide, by decide⟩
  refine bind_wp ez (take_wp ht (by decide) (by decide) fun v6 t6 a6 b6 ht => ?_)
  obtain ⟨n6, rfl⟩ := Int.eq_ofNat_of_zero_le a6
  refine ck_wp (rgOk_nat (by omega)) (compO_wp (fun t : TSt => t.2 ≠ []) (fun y : Int => 0 ≤ y ∧ y < z) _ _ [] ht (fun _ m => nomatch m) (by rw [rangeL_nat]; show _ ≤ 16777216; simp; omega) (fun t x mx ht kc hk => take_wp ht z0 (by omega) fun v t' a b ht => hk v t' ⟨a, b⟩ ht) fun ws t hlen hws ht => ?_)
  have hl : ws.length ≤ 10 := by rw [rangeL_nat] at hlen; simp at hlen; omega
  have hw0 : ∀ x ∈ ws, 0 ≤ x := fun x m => (hws x m).1
  have hS := sum_bd (m := z) hws
  have hS2 : ws.sum < 1073741824 := by
    have : z * (ws.length : Int) ≤ 1000000 * (ws.length : Int) := Int.mul_le_mul_of_nonneg_right z1 (by omega)
    omega
  have c2 : c < 2 ^ 64 := by omega
  obtain ⟨ps, e1, e2, e3, hpl⟩ : ∃ ps, m_shared c ws = some ps ∧ m__law_shared 100000000 c ws = some ps ∧ m_shared_fault c ws ps = some .none ∧ ps.length = ws.length := by
    by_cases g : ws.sum = 0
    · refine ⟨_, shared_zero hl g, law_shared_zero hl g, fault_pre hl (by simp) (fun x m => ?_) g rfl, by simp⟩
      obtain ⟨_, _, rfl⟩ := List.mem_map.1 m
      exact Int.le_refl 0
    · have g' : 0 < ws.sum := by omega
      exact ⟨_, shared_pos c0 c2 hl g' hS2, law_shared_pos (by decide) c0 c2 hl g' hS2, fault_none c0 c2 hl hw0 g' hS2, sh_len⟩
  refine bind_wp e1 (bind_wp e2 ?_)
  rw [decide_eq_true (rfl : ps = ps), decide_eq_true (rfl : ws = ws), if_neg (show ¬ ((!true) = true) by decide), if_neg (show ¬ ((!true) = true) by decide)]
  refine bind_wp e3 ?_
  rw [if_neg (show ¬ ((!isNone (eD.enc PyData.none)) = true) by decide)]
  refine ck_wp (by decide) (forO_wp (fun t : TSt => t.2 ≠ []) ht (fun t x mx ht kc2 hk2 => ?_) fun t ht => hkc t ht)
  have fin : ∀ (t : TSt) (o : List Int), t.2 ≠ [] → ((m_shared_fault c ws o).bind fun r459 => (m__law_fault c ws o).bind fun r464 =>
      ck (SeqAt.shaped (eD.enc r459) && SeqAt.shaped (eD.enc r464)) (if (!PyData.eqv (eD.enc r459) (eD.enc r464)) = true then some false else kc2 t)) = some true := fun t o ht => by
    obtain ⟨r, hr, f1, f2⟩ := fault_eq (ps := o) c0 c2 hl hS.1 hS2
    have hq : PyData.eqv r r = true := PySem.SeqAt.eqv_refl r (SeqAt.canLay_of_shaped hr)
    refine bind_wp f1 (bind_wp f2 (ck_wp (by show (SeqAt.shaped r && SeqAt.shaped r) = true; rw [hr]; rfl) ?_))
    show (if (!PyData.eqv r r) = true then _ else _) = _
    rw [hq]
    exact hk2 t ht
  by_cases g : ps.length = 0
  · rw [if_neg (show ¬ (decide ((0 : Int) < (ps.length : Int)) = true) from fun z => by have := of_decide_eq_true z; omega)]
    exact fin t ps ht
  · have gp : (0 : Int) < (ps.length : Int) := by omega
    rw [if_pos (decide_eq_true gp)]
    refine take_wp ht gp (by omega) fun v7 t7 a7 b7 ht => take_wp ht gp (by omega) fun v8 t8 a8 b8 ht => ?_
    obtain ⟨i, hi, rfl, ei⟩ := atI_pos (xs := ps) a7 b7
    refine bind_wp ei (bind_wp (ixN_nat hi) ?_)
    obtain ⟨j, hj, rfl, ej⟩ := atI_pos (xs := ps.set i (ps[i] + 1)) a8 (by simpa using b8)
    refine bind_wp ej (take_wp ht (by decide) (by decide) fun v9 t9 a9 b9 ht => ?_)
    obtain ⟨u, eu⟩ : ∃ u, atI [(1 : Int), 1, 2] v9 = some u := by
      have : v9 = 0 ∨ v9 = 1 ∨ v9 = 2 := by omega
      rcases this with rfl | rfl | rfl
      · exact ⟨1, rfl⟩
      · exact ⟨1, rfl⟩
      · exact ⟨2, rfl⟩
    refine bind_wp eu (bind_wp (ixN_nat hj) (take_wp ht (by decide) (by decide) fun v10 t10 a10 b10 ht => ?_))
    by_cases g2 : decide ((0 : Int) < v10) = true
    · rw [if_pos g2]; exact fin _ _ ht
    · rw [if_neg g2]; exact fin _ _ ht

/-- what the law's call promises -/
def spLaw (K : Fg) : Sp := fun vs H Q _ => ∃ (a : Addr) (ns : List Int), vs = [.ref a] ∧ SqL K H a (ns.map V.int) ∧ ns.length ≤ 63 ∧ ∀ H', Q (.bl true) H'
theorem ok_end {P : Program} {w : World} {K : Fg} {mg : Str → Option Value} {base : Heap} (fa : Fa K mg) : FnOk P w K mg base CX0 2 fa.f_law fa.fd_law ["script"] (spLaw K) :=
  (ok_law fa 100000000).imp fun vs H Q E h => by
    obtain ⟨a, ns, rfl, hS, hlen, q⟩ := h
    exact law_sp hS (law_true ns hlen) q
theorem all_mk {l : PySem.W.OpenLaw} {w : World} {K : Fg} {h : Heap} {mg : Str → Option Value} {fz f0 f1 f2 f3 f4 f5 f6 : Addr} (X : K.In h) (G : h.Ns mainGlobals mg) (hfa : mg "law" = some (.ref fz))
    {od0 an0 : Option Addr} {sl0 : Array (Option Value)} {oc0 kV0 dc0 pm0 cd0 ct0 : Value}
    (a0 : PySem.W.nsIn K mainGlobals "shared" = some (some (.ref f0))) (l0 : K.lookup f0 = some ⟨oc0, od0, .func (PySem.W.fnOf "shared" "shared" (defArgs s_shared) (defBody s_shared) (defScope s_shared) .none kV0 dc0 pm0 an0 cd0 ct0), sl0⟩) (c0 : PySem.W.codeIn K cd0 "shared" = true) (k0 : PySem.W.keepIn K (.ref f0) = true)
    {od1 an1 : Option Addr} {sl1 : Array (Option Value)} {oc1 kV1 dc1 pm1 cd1 ct1 : Value}
    (a1 : PySem.W.nsIn K mainGlobals "shared_fault" = some (some (.ref f1))) (l1 : K.lookup f1 = some ⟨oc1, od1, .func (PySem.W.fnOf "shared_fault" "shared_fault" (defArgs s_shared_fault) (defBody s_shared_fault) (defScope s_shared_fault) .none kV1 dc1 pm1 an1 cd1 ct1), sl1⟩) (c1 : PySem.W.codeIn K cd1 "shared_fault" = true) (k1 : PySem.W.keepIn K (.ref f1) = true)
    {od2 an2 : Option Addr} {sl2 : Array (Option Value)} {oc2 kV2 dc2 pm2 cd2 ct2 : Value}
    (a2 : PySem.W.nsIn K mainGlobals "_law_state" = some (some (.ref f2))) (l2 : K.lookup f2 = some ⟨oc2, od2, .func (PySem.W.fnOf "_law_state" "_law_state" (defArgs s__law_state) (defBody s__law_state) (defScope s__law_state) .none kV2 dc2 pm2 an2 cd2 ct2), sl2⟩) (c2 : PySem.W.codeIn K cd2 "_law_state" = true) (k2 : PySem.W.keepIn K (.ref f2) = true)
    {od3 an3 : Option Addr} {sl3 : Array (Option Value)} {oc3 kV3 dc3 pm3 cd3 ct3 : Value}
    (a3 : PySem.W.nsIn K mainGlobals "_law_take" = some (some (.ref f3))) (l3 : K.lookup f3 = some ⟨oc3, od3, .func (PySem.W.fnOf "_law_take" "_law_take" (defArgs s__law_take) (defBody s__law_take) (defScope s__law_take) .none kV3 dc3 pm3 an3 cd3 ct3), sl3⟩) (c3 : PySem.W.codeIn K cd3 "_law_take" = true) (k3 : PySem.W.keepIn K (.ref f3) = true)
    {od4 an4 : Option Addr} {sl4 : Array (Option Value)} {oc4 kV4 dc4 pm4 cd4 ct4 : Value}
    (a4 : PySem.W.nsIn K mainGlobals "_law_shared" = some (some (.ref f4))) (l4 : K.lookup f4 = some ⟨oc4, od4, .func (PySem.W.fnOf "_law_shared" "_law_shared" (defArgs s__law_shared) (defBody s__law_shared) (defScope s__law_shared) .none kV4 dc4 pm4 an4 cd4 ct4), sl4⟩) (c4 : PySem.W.codeIn K cd4 "_law_shared" = true) (k4 : PySem.W.keepIn K (.ref f4) = true)
    {od5 an5 : Option Addr} {sl5 : Array (Option Value)} {oc5 kV5 dc5 pm5 cd5 ct5 : Value}
    (a5 : PySem.W.nsIn K mainGlobals "_law_fault" = some (some (.ref f5))) (l5 : K.lookup f5 = some ⟨oc5, od5, .func (PySem.W.fnOf "_law_fault" "_law_fault" (defArgs s__law_fault) (defBody s__law_fault) (defScope s__law_fault) .none kV5 dc5 pm5 an5 cd5 ct5), sl5⟩) (c5 : PySem.W.codeIn K cd5 "_law_fault" = true) (k5 : PySem.W.keepIn K (.ref f5) = true)
    {od6 an6 : Option Addr} {sl6 : Array (Option Value)} {oc6 kV6 dc6 pm6 cd6 ct6 : Value}
    (a6 : PySem.W.nsIn K mainGlobals "law" = some (some (.ref f6))) (l6 : K.lookup f6 = some ⟨oc6, od6, .func (PySem.W.fnOf "law" "law" (defArgs s_law) (defBody s_law) (defScope s_law) .none kV6 dc6 pm6 an6 cd6 ct6), sl6⟩) (c6 : PySem.W.codeIn K cd6 "law" = true) (k6 : PySem.W.keepIn K (.ref f6) = true)
    (z_abs : PySem.W.nsIn K mainGlobals "abs" = some none)
    (z_enumerate : PySem.W.nsIn K mainGlobals "enumerate" = some none)
    (z_int : PySem.W.nsIn K mainGlobals "int" = some none)
    (z_len : PySem.W.nsIn K mainGlobals "len" = some none)
    (z_list : PySem.W.nsIn K mainGlobals "list" = some none)
    (z_min : PySem.W.nsIn K mainGlobals "min" = some none)
    (z_range : PySem.W.nsIn K mainGlobals "range" = some none)
    (z_sorted : PySem.W.nsIn K mainGlobals "sorted" = some none)
    (z_sum : PySem.W.nsIn K mainGlobals "sum" = some none) :
    ∃ fd : FuncData, (∀ (s : Shared) (v : Value), BindsTo s fd ⟨[v], []⟩ [("script", v)]) ∧ ∀ base : Heap, K.In base → base.Ns mainGlobals mg → FnOk l.prog w K mg base CX0 2 fz fd ["script"] (spLaw K) := by
  have e := hfa.symm.trans (PySem.W.mg_of X G a6)
  cases e
  exact ⟨PySem.W.fnOf "law" "law" (defArgs s_law) (defBody s_law) (defScope s_law) .none kV6 dc6 pm6 an6 cd6 ct6, fun s v => .of_eq rfl, fun base _ _ => ok_end (fa := { f_shared := f0, fd_shared := PySem.W.fnOf "shared" "shared" (defArgs s_shared) (defBody s_shared) (defScope s_shared) .none kV0 dc0 pm0 an0 cd0 ct0, F_shared := fun_mk (st := s_shared) l0 c0 k0, g_shared := PySem.W.mg_of X G a0, b_shared := (fun_mk (st := s_shared) l0 c0 k0).binds fun _ _ _ _ _ _ us hl => match us, hl with | [_, _], _ => rfl, f_shared_fault := f1, fd_shared_fault := PySem.W.fnOf "shared_fault" "shared_fault" (defArgs s_shared_fault) (defBody s_shared_fault) (defScope s_shared_fault) .none kV1 dc1 pm1 an1 cd1 ct1, F_shared_fault := fun_mk (st := s_shared_fault) l1 c1 k1, g_shared_fault := PySem.W.mg_of X G a1, b_shared_fault := (fun_mk (st := s_shared_fault) l1 c1 k1).binds fun _ _ _ _ _ _ us hl => match us, hl with | [_, _, _], _ => rfl, f__law_state := f2, fd__law_state := PySem.W.fnOf "_law_state" "_law_state" (defArgs s__law_state) (defBody s__law_state) (defScope s__law_state) .none kV2 dc2 pm2 an2 cd2 ct2, F__law_state := fun_mk (st := s__law_state) l2 c2 k2, g__law_state := PySem.W.mg_of X G a2, b__law_state := (fun_mk (st := s__law_state) l2 c2 k2).binds fun _ _ _ _ _ _ us hl => match us, hl with | [_], _ => rfl, f__law_take := f3, fd__law_take := PySem.W.fnOf "_law_take" "_law_take" (defArgs s__law_take) (defBody s__law_take) (defScope s__law_take) .none kV3 dc3 pm3 an3 cd3 ct3, F__law_take := fun_mk (st := s__law_take) l3 c3 k3, g__law_take := PySem.W.mg_of X G a3, b__law_take := (fun_mk (st := s__law_take) l3 c3 k3).binds fun _ _ _ _ _ _ us hl => match us, hl with | [_, _], _ => rfl, f__law_shared := f4, fd__law_shared := PySem.W.fnOf "_law_shared" "_law_shared" (defArgs s__law_shared) (defBody s__law_shared) (defScope s__law_shared) .none kV4 dc4 pm4 an4 cd4 ct4, F__law_shared := fun_mk (st := s__law_shared) l4 c4 k4, g__law_shared := PySem.W.mg_of X G a4, b__law_shared := (fun_mk (st := s__law_shared) l4 c4 k4).binds fun _ _ _ _ _ _ us hl => match us, hl with | [_, _], _ => rfl, f__law_fault := f5, fd__law_fault := PySem.W.fnOf "_law_fault" "_law_fault" (defArgs s__law_fault) (defBody s__law_fault) (defScope s__law_fault) .none kV5 dc5 pm5 an5 cd5 ct5, F__law_fault := fun_mk (st := s__law_fault) l5 c5 k5, g__law_fault := PySem.W.mg_of X G a5, b__law_fault := (fun_mk (st := s__law_fault) l5 c5 k5).binds fun _ _ _ _ _ _ us hl => match us, hl with | [_, _, _], _ => rfl, f_law := fz, fd_law := PySem.W.fnOf "law" "law" (defArgs s_law) (defBody s_law) (defScope s_law) .none kV6 dc6 pm6 an6 cd6 ct6, F_law := fun_mk (st := s_law) l6 c6 k6, g_law := PySem.W.mg_of X G a6, b_law := (fun_mk (st := s_law) l6 c6 k6).binds fun _ _ _ _ _ _ us hl => match us, hl with | [_], _ => rfl, z_abs := PySem.W.mg_none_of X G z_abs, z_enumerate := PySem.W.mg_none_of X G z_enumerate, z_int := PySem.W.mg_none_of X G z_int, z_len := PySem.W.mg_none_of X G z_len, z_list := PySem.W.mg_none_of X G z_list, z_min := PySem.W.mg_none_of X G z_min, z_range := PySem.W.mg_none_of X G z_range, z_sorted := PySem.W.mg_none_of X G z_sorted, z_sum := PySem.W.mg_none_of X G z_sum })⟩
end My
open PySem PySem.W PyProof.Rows
set_option maxHeartbeats 0 in
theorem PySem.Challenge.cw_cutwright_k87_shared_amounts_holds : PySem.Challenge.rw_cutwright_k87_shared_amounts.Holds := by
  w_on; o_law; k_head; (case hw => w_witness2)
  k_fill
  refine L2.walk_of (l := PySem.Challenge.rw_cutwright_k87_shared_amounts) (n := 63) (k := 2) (x := "script") (CX := fun _ => L2.CX0) (sp := fun w => My.spLaw _) rfl (by decide) rfl ⟨rfl, by decide, by decide⟩ (fun w h Y => PySem.W.kIn_of Y) ?F (fun _ _ a ns hl _ hS => ⟨a, ns, rfl, hS, hl, fun _ => rfl⟩) (fun _ _ _ _ _ h => h)
  case F =>
    intro w mg fa h KX G hmg
    refine' My.all_mk KX G hmg ?a0 ?l0 ?c0 ?k0 ?a1 ?l1 ?c1 ?k1 ?a2 ?l2 ?c2 ?k2 ?a3 ?l3 ?c3 ?k3 ?a4 ?l4 ?c4 ?k4 ?a5 ?l5 ?c5 ?k5 ?a6 ?l6 ?c6 ?k6 ?z_abs ?z_enumerate ?z_int ?z_len ?z_list ?z_min ?z_range ?z_sorted ?z_sum
    (case a0 => k_is); (case l0 => k_is); (case c0 => k_is); (case k0 => k_is)
    (case a1 => k_is); (case l1 => k_is); (case c1 => k_is); (case k1 => k_is)
    (case a2 => k_is); (case l2 => k_is); (case c2 => k_is); (case k2 => k_is)
    (case a3 => k_is); (case l3 => k_is); (case c3 => k_is); (case k3 => k_is)
    (case a4 => k_is); (case l4 => k_is); (case c4 => k_is); (case k4 => k_is)
    (case a5 => k_is); (case l5 => k_is); (case c5 => k_is); (case k5 => k_is)
    (case a6 => k_is); (case l6 => k_is); (case c6 => k_is); (case k6 => k_is)
    (case z_abs => k_is)
    (case z_enumerate => k_is)
    (case z_int => k_is)
    (case z_len => k_is)
    (case z_list => k_is)
    (case z_min => k_is)
    (case z_range => k_is)
    (case z_sorted => k_is)
    (case z_sum => k_is)

