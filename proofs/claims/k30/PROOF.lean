import PyProof.Rows.All
import HandS.ForMost
import HandS.Wide
import KE.SortData
import KE.DataMinMax
import HandS.IsInst
import PyProof.ReprRoads
import HandS.Deep
import PyProof.ReprBulk
import HandS.Style
import HandS.TupLe
import HandS.TupAny
import HandS.Strs
import HandS.TupSets
import PySem.Challenge.RW_cutwright_k30_whole_regions
set_option Elab.async false
set_option linter.all false
set_option maxRecDepth 100000
set_option Elab.async false
set_option linter.all false
set_option maxRecDepth 100000
namespace Z
open PySem PySem.Spec PyProof.Rows L2

abbrev Fg := PySem.W.Frag
def keyD : Key → PyData
  | .inl i => .int i
  | .inr s => .str s

mutual
inductive Rep (K : Fg) (F : Hp) : V → PyData → Prop
  | non : Rep K F .non .none
  | bl (b : Bool) : Rep K F (.bl b) (.bool b)
  | int (i : Int) : Rep K F (.int i) (.int i)
  | str (x : Str) : Rep K F (.str x) (.str x)
  | lst {a : Addr} {xs : List V} {ds : List PyData} : F a = some (.lst xs) → RepAll K F xs ds → Rep K F (.ref a) (.list ds)
  | tup {a : Addr} {xs : List V} {ds : List PyData} : SqT K F a xs → RepAll K F xs ds → Rep K F (.ref a) (.tuple ds)
  | dK {a : Addr} {kvs : List (Key × V)} {ds : List PyData} : Rd F a (.dK kvs) → RepAll K F (kvs.map (·.2)) ds → Rep K F (.ref a) (.dict ((kvs.map fun p => keyD p.1).zip ds))
  | dT {a : Addr} {kvs : List (List Key × V)} {ds : List PyData} : Rd F a (.dT kvs) → RepAll K F (kvs.map (·.2)) ds → Rep K F (.ref a) (.dict ((kvs.map fun p => PyData.tuple (p.1.map keyD)).zip ds))
inductive RepAll (K : Fg) (F : Hp) : List V → List PyData → Prop
  | nil : RepAll K F [] []
  | cons {v : V} {vs : List V} {d : PyData} {ds : List PyData} : Rep K F v d → RepAll K F vs ds → RepAll K F (v :: vs) (d :: ds)
end

theorem same_rd {F F' : Hp} (s : Same F F') {a : Addr} {u : HO} (h : Rd F a u) : Rd F' a u := by
  rcases h with h | ⟨o, h⟩
  · exact .inl (s _ _ h)
  · exact .inr ⟨o, s _ _ h⟩
theorem same_sqT {K : Fg} {F F' : Hp} (s : Same F F') {a : Addr} {xs : List V} (h : SqT K F a xs) : SqT K F' a xs := by
  rcases h with h | h
  · exact .inl (same_rd s h)
  · exact .inr h
mutual
theorem Rep.mono {K : Fg} {F F' : Hp} (s : Same F F') : ∀ {v : V} {d : PyData}, Rep K F v d → Rep K F' v d
  | _, _, .non => .non
  | _, _, .bl b => .bl b
  | _, _, .int i => .int i
  | _, _, .str x => .str x
  | _, _, .lst h r => .lst (s _ _ h) (RepAll.mono s r)
  | _, _, .tup h r => .tup (same_sqT s h) (RepAll.mono s r)
  | _, _, .dK h r => .dK (same_rd s h) (RepAll.mono s r)
  | _, _, .dT h r => .dT (same_rd s h) (RepAll.mono s r)
theorem RepAll.mono {K : Fg} {F F' : Hp} (s : Same F F') : ∀ {vs : List V} {ds : List PyData}, RepAll K F vs ds → RepAll K F' vs ds
  | _, _, .nil => .nil
  | _, _, .cons h r => .cons (Rep.mono s h) (RepAll.mono s r)
end
theorem RepAll.length {K : Fg} {F : Hp} : ∀ {vs : List V} {ds : List PyData}, RepAll K F vs ds → vs.length = ds.length
  | _, _, .nil => rfl
  | _, _, .cons _ r => congrArg (· + 1) (RepAll.length r)
theorem RepAll.app {K : Fg} {F : Hp} : ∀ {vs ws : List V} {ds es : List PyData}, RepAll K F vs ds → RepAll K F ws es → RepAll K F (vs ++ ws) (ds ++ es)
  | _, _, _, _, .nil, q => q
  | _, _, _, _, .cons h r, q => .cons h (RepAll.app r q)
theorem RepAll.get {K : Fg} {F : Hp} : ∀ {vs : List V} {ds : List PyData} {i : Nat} {d : PyData}, RepAll K F vs ds → ds[i]? = some d → ∃ v, vs[i]? = some v ∧ Rep K F v d
  | _, _, _, _, .nil, e => by simp at e
  | _, _, 0, _, .cons h _, e => ⟨_, rfl, by simp at e; exact e ▸ h⟩
  | _, _, i + 1, _, .cons _ r, e => by
    obtain ⟨v, h1, h2⟩ := RepAll.get (i := i) r (by simpa using e)
    exact ⟨v, by simpa using h1, h2⟩
theorem RepAll.getv {K : Fg} {F : Hp} : ∀ {vs : List V} {ds : List PyData} {i : Nat} {v : V}, RepAll K F vs ds → vs[i]? = some v → ∃ d, ds[i]? = some d ∧ Rep K F v d
  | _, _, _, _, .nil, e => by simp at e
  | _, _, 0, _, .cons h _, e => ⟨_, rfl, by simp at e; exact e ▸ h⟩
  | _, _, i + 1, _, .cons _ r, e => by
    obtain ⟨v, h1, h2⟩ := RepAll.getv (i := i) r (by simpa using e)
    exact ⟨v, by simpa using h1, h2⟩
theorem RepAll.set {K : Fg} {F : Hp} {v : V} {d : PyData} (h : Rep K F v d) : ∀ {vs : List V} {ds : List PyData} {i : Nat}, RepAll K F vs ds → RepAll K F (vs.set i v) (ds.set i d)
  | _, _, _, .nil => .nil
  | _, _, 0, .cons _ r => .cons h r
  | _, _, i + 1, .cons q r => .cons q (RepAll.set h r)
theorem RepAll.take {K : Fg} {F : Hp} : ∀ {vs : List V} {ds : List PyData} (n : Nat), RepAll K F vs ds → RepAll K F (vs.take n) (ds.take n)
  | _, _, 0, _ => .nil
  | _, _, _ + 1, .nil => .nil
  | _, _, n + 1, .cons h r => .cons h (RepAll.take n r)
theorem RepAll.drop {K : Fg} {F : Hp} : ∀ {vs : List V} {ds : List PyData} (n : Nat), RepAll K F vs ds → RepAll K F (vs.drop n) (ds.drop n)
  | _, _, 0, r => r
  | _, _, _ + 1, .nil => .nil
  | _, _, n + 1, .cons _ r => RepAll.drop n r

/-! ### what a value of Lean stands for -/
structure Enc (τ : Type) where
  enc : τ → PyData
  inj : ∀ a b, enc a = enc b → a = b
def eI : Enc Int := ⟨.int, fun _ _ h => by injection h⟩
def eB : Enc Bool := ⟨.bool, fun _ _ h => by injection h⟩
def eS : Enc Str := ⟨.str, fun _ _ h => by injection h⟩
def eN : Enc Unit := ⟨fun _ => .none, fun _ _ _ => rfl⟩
def eD : Enc PyData := ⟨id, fun _ _ h => h⟩
theorem map_inj {α β : Type} {f : α → β} (h : ∀ a b, f a = f b → a = b) : ∀ {xs ys : List α}, xs.map f = ys.map f → xs = ys
  | [], [], _ => rfl
  | [], _ :: _, e => by simp at e
  | _ :: _, [], e => by simp at e
  | x :: xs, y :: ys, e => by
    simp only [List.map_cons, List.cons.injEq] at e
    rw [h _ _ e.1, map_inj h e.2]
def eL {τ : Type} (E : Enc τ) : Enc (List τ) := ⟨fun xs => .list (xs.map E.enc), fun _ _ h => map_inj E.inj (by injection h)⟩
def eV {τ : Type} (E : Enc τ) : Enc (List τ) := ⟨fun xs => .tuple (xs.map E.enc), fun _ _ h => map_inj E.inj (by injection h)⟩
def eT2 {α β : Type} (A : Enc α) (B : Enc β) : Enc (α × β) := ⟨fun p => .tuple [A.enc p.1, B.enc p.2], fun a b h => by
  injection h with h
  simp only [List.cons.injEq, and_true] at h
  exact Prod.ext (A.inj _ _ h.1) (B.inj _ _ h.2)⟩
def eT3 {α β γ : Type} (A : Enc α) (B : Enc β) (G : Enc γ) : Enc (α × β × γ) := ⟨fun p => .tuple [A.enc p.1, B.enc p.2.1, G.enc p.2.2], fun a b h => by
  injection h with h
  simp only [List.cons.injEq, and_true] at h
  exact Prod.ext (A.inj _ _ h.1) (Prod.ext (B.inj _ _ h.2.1) (G.inj _ _ h.2.2))⟩
def eT4 {α β γ δ : Type} (A : Enc α) (B : Enc β) (G : Enc γ) (D : Enc δ) : Enc (α × β × γ × δ) := ⟨fun p => .tuple [A.enc p.1, B.enc p.2.1, G.enc p.2.2.1, D.enc p.2.2.2], fun a b h => by
  injection h with h
  simp only [List.cons.injEq, and_true] at h
  exact Prod.ext (A.inj _ _ h.1) (Prod.ext (B.inj _ _ h.2.1) (Prod.ext (G.inj _ _ h.2.2.1) (D.inj _ _ h.2.2.2)))⟩
def eT5 {α β γ δ ε : Type} (A : Enc α) (B : Enc β) (G : Enc γ) (D : Enc δ) (E : Enc ε) : Enc (α × β × γ × δ × ε) := ⟨fun p => .tuple [A.enc p.1, B.enc p.2.1, G.enc p.2.2.1, D.enc p.2.2.2.1, E.enc p.2.2.2.2], fun a b h => by
  injection h with h
  simp only [List.cons.injEq, and_true] at h
  exact Prod.ext (A.inj _ _ h.1) (Prod.ext (B.inj _ _ h.2.1) (Prod.ext (G.inj _ _ h.2.2.1) (Prod.ext (D.inj _ _ h.2.2.2.1) (E.inj _ _ h.2.2.2.2))))⟩
def eO {τ : Type} (E : Enc τ) (hn : ∀ a, E.enc a ≠ .none) : Enc (Option τ) := ⟨fun o => match o with | none => .none | some a => E.enc a, fun a b h => by
  cases a <;> cases b
  · rfl
  · exact absurd h.symm (hn _)
  · exact absurd h (hn _)
  · exact congrArg some (E.inj _ _ h)⟩

/-! ### how a slot holds a value: shared data, or objects of its own -/
def grow (F H : Hp) (fp : List Addr) : Hp := fun a => if a ∈ fp then H a else F a
structure Stor (τ : Type) where
  rel : Fg → Hp → Hp → List Addr → V → τ → Prop
  monoF : ∀ {K F F' H fp v x}, Same F F' → rel K F H fp v x → rel K F' H fp v x
  frame : ∀ {K F H H' fp v x}, (∀ a ∈ fp, H' a = H a) → rel K F H fp v x → rel K F H' fp v x
/-- it may be made shared data -/
structure Frz {τ : Type} (S : Stor τ) (E : Enc τ) : Prop where
  frz : ∀ {K F H fp v x}, (∀ a ∈ fp, F a = none) → S.rel K F H fp v x → Rep K (grow F H fp) v (E.enc x)
/-- it owns nothing: it may be told twice -/
structure Cp {τ : Type} (S : Stor τ) : Prop where
  nil : ∀ {K F H fp v x}, S.rel K F H fp v x → fp = []
theorem grow_nil {F H : Hp} : grow F H [] = F := by funext a; simp [grow]
theorem same_grow {F H : Hp} {fp : List Addr} (h : ∀ a ∈ fp, F a = none) : Same F (grow F H fp) := fun a o e => by
  unfold grow
  by_cases m : a ∈ fp
  · rw [h a m] at e; cases e
  · rw [if_neg m]; exact e
theorem grow_sub {F H : Hp} {fp fq : List Addr} (h : ∀ a ∈ fq, F a = none) (s : ∀ a ∈ fp, a ∈ fq) : Same (grow F H fp) (grow F H fq) := fun a o e => by
  unfold grow at e ⊢
  by_cases m : a ∈ fp
  · rw [if_pos m] at e; rw [if_pos (s a m)]; exact e
  · rw [if_neg m] at e
    by_cases m' : a ∈ fq
    · rw [h a m'] at e; cases e
    · rw [if_neg m']; exact e
def it {τ : Type} (E : Enc τ) : Stor τ where
  rel := fun K F _ fp v x => fp = [] ∧ Rep K F v (E.enc x)
  monoF := fun s h => ⟨h.1, h.2.mono s⟩
  frame := fun _ h => h
theorem fz_it {τ : Type} {E : Enc τ} : Frz (it E) E := ⟨fun _ h => by obtain ⟨rfl, r⟩ := h; rw [grow_nil]; exact r⟩
theorem cp_it {τ : Type} {E : Enc τ} : Cp (it E) := ⟨fun h => h.1⟩
/-- a list of ints that stands for good (the script) -/
def scr : Stor (List Int) where
  rel := fun K F _ fp v xs => fp = [] ∧ ∃ a, v = .ref a ∧ SqL K F a (xs.map V.int)
  monoF := fun s h => by obtain ⟨e, a, e2, q⟩ := h; exact ⟨e, a, e2, s.seq q⟩
  frame := fun _ h => h
theorem cp_scr : Cp scr := ⟨fun h => h.1⟩
inductive RelAll {τ : Type} (R : List Addr → V → τ → Prop) : List Addr → List V → List τ → Prop
  | nil : RelAll R [] [] []
  | cons {fp fps v vs x xs} : R fp v x → RelAll R fps vs xs → RelAll R (fp ++ fps) (v :: vs) (x :: xs)
theorem RelAll.imp {τ : Type} {R R' : List Addr → V → τ → Prop} : ∀ {fp : List Addr} {vs : List V} {xs : List τ}, (∀ fq v x, (∀ a ∈ fq, a ∈ fp) → R fq v x → R' fq v x) → RelAll R fp vs xs → RelAll R' fp vs xs
  | _, _, _, _, .nil => .nil
  | _, _, _, f, .cons h r => .cons (f _ _ _ (fun a m => List.mem_append_left _ m) h) (RelAll.imp (fun fq v x s q => f fq v x (fun a m => List.mem_append_right _ (s a m)) q) r)
theorem RelAll.rep {τ : Type} {E : Enc τ} {K : Fg} {F : Hp} {R : List Addr → V → τ → Prop} : ∀ {fp : List Addr} {vs : List V} {xs : List τ}, (∀ fq v x, (∀ a ∈ fq, a ∈ fp) → R fq v x → Rep K F v (E.enc x)) → RelAll R fp vs xs → RepAll K F vs (xs.map E.enc)
  | _, _, _, _, .nil => .nil
  | _, _, _, f, .cons h r => .cons (f _ _ _ (fun a m => List.mem_append_left _ m) h) (RelAll.rep (fun fq v x s q => f fq v x (fun a m => List.mem_append_right _ (s a m)) q) r)
def ls {τ : Type} (S : Stor τ) : Stor (List τ) where
  rel := fun K F H fp v xs => ∃ p vs fps, v = .ref p ∧ H p = some (.lst vs) ∧ RelAll (S.rel K F H) fps vs xs ∧ fp = p :: fps
  monoF := fun s h => by
    obtain ⟨p, vs, fps, rfl, hp, r, rfl⟩ := h
    exact ⟨p, vs, fps, rfl, hp, r.imp fun _ _ _ _ q => S.monoF s q, rfl⟩
  frame := fun f h => by
    obtain ⟨p, vs, fps, rfl, hp, r, rfl⟩ := h
    exact ⟨p, vs, fps, rfl, by rw [f p List.mem_cons_self]; exact hp, r.imp fun fq _ _ s q => S.frame (fun a m => f a (List.mem_cons_of_mem _ (s a m))) q, rfl⟩
theorem fz_ls {τ : Type} {S : Stor τ} {E : Enc τ} (fz : Frz S E) : Frz (ls S) (eL E) := ⟨fun n h => by
  obtain ⟨p, vs, fps, rfl, hp, r, rfl⟩ := h
  refine .lst ?_ (r.rep fun fq v x s q => ?_)
  · show (if p ∈ p :: fps then _ else _) = _
    rw [if_pos List.mem_cons_self]; exact hp
  · exact (fz.frz (fun a m => n a (List.mem_cons_of_mem _ (s a m))) q).mono (grow_sub n fun a m => List.mem_cons_of_mem _ (s a m))⟩

inductive Slot : Type 1
  | un
  | st (w : Option V) (τ : Type) (S : Stor τ) (x : τ)
  | lk (τ : Type) (S : Stor τ) (x : τ)
abbrev Env := List Slot
abbrev Slot.sh {τ : Type} (E : Enc τ) (x : τ) : Slot := .st none τ (it E) x
abbrev Slot.ow {τ : Type} (S : Stor τ) (x : τ) : Slot := .st none τ S x

structure Ck where
  K : Fg
  B : Hp
  F0 : Hp
  He : Hp
  io : List Addr
def SlotOk (C : Ck) (F H : Hp) (o : Option V) : Slot → List Addr → Prop
  | .un, fp => fp = []
  | .st w _ S x, fp => ∃ v, o = some v ∧ S.rel C.K F H fp v x ∧ (match w with | none => ∀ a ∈ fp, C.He a = none | some v0 => v = v0 ∧ ∀ a ∈ fp, C.He a = none ∨ a ∈ C.io)
  | .lk _ S x, fp => fp = [] ∧ ∃ v fq, o = some v ∧ S.rel C.K F H fq v x ∧ ∀ a ∈ fq, C.B a ≠ none
theorem SlotOk.go {C : Ck} {F F' H H' : Hp} {o : Option V} {s : Slot} {fp : List Addr} (sF : Same F F') (hB : ∀ a, C.B a ≠ none → H' a = H a) (h : ∀ a ∈ fp, H' a = H a) (k : SlotOk C F H o s fp) : SlotOk C F' H' o s fp := by
  cases s with
  | un => exact k
  | st w τ S x => obtain ⟨v, e, r, q⟩ := k; exact ⟨v, e, S.monoF sF (S.frame h r), q⟩
  | lk τ S x => obtain ⟨e, v, fq, e2, r, q⟩ := k; exact ⟨e, v, fq, e2, S.monoF sF (S.frame (fun a m => hB a (q a m)) r), q⟩
/-- the footprints of the slots -/
structure Fps (C : Ck) (F H : Hp) (σ : List (Option V)) (env : Env) (fp : Nat → List Addr) : Prop where
  ok : ∀ i s, env[i]? = some s → SlotOk C F H (σ[i]?.join) s (fp i)
  own : ∀ i, i < env.length → ∀ a ∈ fp i, C.B a = none ∧ F a = none ∧ H a ≠ none
  sep : ∀ i j, i < env.length → j < env.length → ∀ a, a ∈ fp i → a ∈ fp j → i = j
  nd : ∀ i, i < env.length → (fp i).Nodup
structure ER (C : Ck) (F H : Hp) (σ : List (Option V)) (env : Env) : Prop where
  sB : Same C.B H
  sF : Same F H
  gr : ∀ a, F a ≠ none → C.F0 a ≠ none ∨ C.He a = none
  up : ∀ a, C.He a ≠ none → H a ≠ none
  len : σ.length = env.length
  sl : ∃ fp, Fps C F H σ env fp

section
variable {C : Ck} {F F' H H' : Hp} {σ : List (Option V)} {env : Env} {o : Option V} {s : Slot} {τ : Type} {S : Stor τ} {E : Enc τ} {x : τ} {v : V} {w : Option V} {i : Nat} {p : Addr} {u : HO}
theorem same_some {H H' : Hp} (s : Same H H') {a : Addr} (h : H a ≠ none) : H' a ≠ none := by
  cases e : H a with
  | none => exact absurd e h
  | some o => rw [s a o e]; exact fun z => by cases z
theorem same_eq {H H' : Hp} (s : Same H H') {a : Addr} (h : H a ≠ none) : H' a = H a := by
  cases e : H a with
  | none => exact absurd e h
  | some o => exact s a o e
theorem ER.look (h : ER C F H σ env) (e : env[i]? = some (.st w τ S x)) : ∃ v fp, σ[i]? = some (some v) ∧ S.rel C.K F H fp v x := by
  obtain ⟨fp, q⟩ := h.sl
  obtain ⟨v, e1, r, _⟩ := q.ok i _ e
  refine ⟨v, fp i, ?_, r⟩
  cases z : σ[i]? with
  | none => rw [z] at e1; cases e1
  | some o => rw [z] at e1; exact congrArg some e1
theorem ER.lookK (h : ER C F H σ env) (e : env[i]? = some (.lk τ S x)) : ∃ v fp, σ[i]? = some (some v) ∧ S.rel C.K F H fp v x := by
  obtain ⟨fp, q⟩ := h.sl
  obtain ⟨_, v, fq, e1, r, _⟩ := q.ok i _ e
  refine ⟨v, fq, ?_, r⟩
  cases z : σ[i]? with
  | none => rw [z] at e1; cases e1
  | some o => rw [z] at e1; exact congrArg some e1
theorem ER.rep (h : ER C F H σ env) (e : env[i]? = some (.st w τ (it E) x)) : ∃ v, σ[i]? = some (some v) ∧ Rep C.K F v (E.enc x) := by
  obtain ⟨v, fp, e1, r⟩ := h.look e
  exact ⟨v, e1, r.2⟩
theorem Fps.push {fp : Nat → List Addr} (q : Fps C F H σ env fp) {fq : List Addr} (ok : SlotOk C F H o s fq) (ow : ∀ a ∈ fq, C.B a = none ∧ F a = none ∧ H a ≠ none) (nd : fq.Nodup) (df : ∀ i, i < env.length → ∀ a ∈ fp i, a ∉ fq) :
    Fps C F H (o :: σ) (s :: env) (fun | 0 => fq | i + 1 => fp i) := by
  refine ⟨?_, ?_, ?_, ?_⟩
  · intro i s' e
    cases i with
    | zero => simp at e; subst e; exact ok
    | succ i => exact q.ok i s' (by simpa using e)
  · intro i hi a ha
    cases i with
    | zero => exact ow a ha
    | succ i => exact q.own i (by simpa using hi) a ha
  · intro i j hi hj a ha hb
    cases i with
    | zero => cases j with
      | zero => rfl
      | succ j => exact absurd ha (df j (by simpa using hj) a hb)
    | succ i => cases j with
      | zero => exact absurd hb (df i (by simpa using hi) a ha)
      | succ j => exact congrArg (· + 1) (q.sep i j (by simpa using hi) (by simpa using hj) a ha hb)
  · intro i hi
    cases i with
    | zero => exact nd
    | succ i => exact q.nd i (by simpa using hi)
theorem ER.push0 (h : ER C F H σ env) (ok : SlotOk C F H o s []) : ER C F H (o :: σ) (s :: env) := by
  obtain ⟨fp, q⟩ := h.sl
  exact ⟨h.sB, h.sF, h.gr, h.up, by simp [h.len], _, q.push ok (fun _ m => nomatch m) List.nodup_nil fun _ _ _ _ m => nomatch m⟩
theorem ER.pushSh (h : ER C F H σ env) (r : Rep C.K F v (E.enc x)) : ER C F H (some v :: σ) (.st none τ (it E) x :: env) :=
  h.push0 ⟨v, rfl, ⟨rfl, r⟩, fun _ m => nomatch m⟩
theorem ER.pushUn (h : ER C F H σ env) : ER C F H (o :: σ) (.un :: env) := h.push0 rfl
theorem ER.pop (h : ER C F H (o :: σ) (s :: env)) : ER C F H σ env := by
  obtain ⟨fp, q⟩ := h.sl
  exact ⟨h.sB, h.sF, h.gr, h.up, by simpa using h.len, fun i => fp (i + 1), fun i s e => q.ok (i + 1) s (by simpa using e), fun i hi => q.own (i + 1) (by simpa using hi),
    fun i j hi hj a ha hb => Nat.succ.inj (q.sep (i + 1) (j + 1) (by simpa using hi) (by simpa using hj) a ha hb), fun i hi => q.nd (i + 1) (by simpa using hi)⟩
theorem ER.popN : ∀ {vs : List (Option V)} {es : Env}, vs.length = es.length → ER C F H (vs ++ σ) (es ++ env) → ER C F H σ env
  | [], [], _, h => h
  | [], _ :: _, e, _ => by simp at e
  | _ :: _, [], e, _ => by simp at e
  | _ :: vs, _ :: es, e, h => ER.popN (vs := vs) (es := es) (by simpa using e) h.pop
theorem Fps.grow {fp : Nat → List Addr} (h : ER C F H σ env) (q : Fps C F H σ env fp) (sH : Same H H') (sF : Same F F') (n : ∀ a, F' a ≠ none → F a ≠ none ∨ H a = none) : Fps C F' H' σ env fp := by
  refine ⟨fun i s e => ?_, fun i hi a ha => ?_, q.sep, q.nd⟩
  · refine (q.ok i s e).go sF (fun a m => same_eq sH (same_some h.sB m)) fun a ha => same_eq sH ?_
    exact (q.own i (by obtain ⟨hi, _⟩ := List.getElem?_eq_some_iff.mp e; exact hi) a ha).2.2
  · obtain ⟨b, f, c⟩ := q.own i hi a ha
    refine ⟨b, ?_, same_some sH c⟩
    cases e : F' a with
    | none => rfl
    | some o =>
      rcases n a (by rw [e]; exact fun z => by cases z) with z | z
      · exact absurd f z
      · exact absurd z c
/-- the heap grows by objects that no slot holds; what is frozen may grow by new ones -/
theorem ER.grow (h : ER C F H σ env) (sH : Same H H') (sF : Same F F') (sF' : Same F' H') (n : ∀ a, F' a ≠ none → F a ≠ none ∨ H a = none) : ER C F' H' σ env := by
  obtain ⟨fp, q⟩ := h.sl
  refine ⟨fun a o e => sH a o (h.sB a o e), sF', fun a m => ?_, fun a m => same_some sH (h.up a m), h.len, fp, q.grow h sH sF n⟩
  rcases n a m with z | z
  · exact h.gr a z
  · refine .inr ?_
    cases e : C.He a with
    | none => rfl
    | some o => exact absurd z (h.up a (by rw [e]; exact fun z => by cases z))
theorem same_new (n : H p = none) : Same H (upd H p u) := fun b o e => by rw [upd_ne (ne_of_none e n)]; exact e
theorem ER.fnone (h : ER C F H σ env) (n : H p = none) : F p = none := by
  cases e : F p with
  | none => rfl
  | some o => rw [h.sF p o e] at n; cases n
theorem ER.bnone (h : ER C F H σ env) (n : H p = none) : C.B p = none := by
  cases e : C.B p with
  | none => rfl
  | some o => rw [h.sB p o e] at n; cases n
theorem ER.hnone (h : ER C F H σ env) (n : H p = none) : C.He p = none := by
  cases e : C.He p with
  | none => rfl
  | some o => exact absurd n (h.up p (by rw [e]; exact fun z => by cases z))
theorem ER.newF (h : ER C F H σ env) (n : H p = none) : ER C (upd F p u) (upd H p u) σ env := by
  refine h.grow (same_new n) (same_new (h.fnone n)) (fun a o e => ?_) fun a m => ?_
  · by_cases z : a = p
    · subst z; rw [upd_same] at e ⊢; exact e
    · rw [upd_ne z] at e ⊢; exact h.sF a o e
  · by_cases z : a = p
    · subst z; exact .inr n
    · rw [upd_ne z] at m; exact .inl m
theorem ER.newH (h : ER C F H σ env) (n : H p = none) : ER C F (upd H p u) σ env :=
  h.grow (same_new n) (fun _ _ e => e) (fun a o e => same_new n a o (h.sF a o e)) fun a m => .inl m
/-- a new object of one's own -/
theorem ER.newOw (h : ER C F H σ env) (n : H p = none) (r : S.rel C.K F (upd H p u) [p] v x) : ER C F (upd H p u) (some v :: σ) (.st none τ S x :: env) := by
  have h' := h.newH (u := u) n
  obtain ⟨fp, q⟩ := h.sl
  have q' := q.grow h (same_new (u := u) n) (fun _ _ e => e) fun a m => .inl m
  refine ⟨h'.sB, h'.sF, h'.gr, h'.up, by simp [h'.len], _, q'.push (fq := [p]) ⟨v, rfl, r, fun a m => ?_⟩ (fun a m => ?_) (by simp) fun i hi a ha m => ?_⟩
  · simp at m; subst m; exact h.hnone n
  · simp at m; subst m; exact ⟨h.bnone n, h.fnone n, by rw [upd_same]; exact fun z => by cases z⟩
  · simp at m; subst m; exact (q.own i hi a ha).2.2 n
/-- a slot's objects are changed by themselves -/
theorem ER.mut (h : ER C F H σ env) (e : env[i]? = some (.st w τ S x)) : ∃ v fp, σ[i]? = some (some v) ∧ S.rel C.K F H fp v x ∧ fp.Nodup ∧ (∀ a ∈ fp, C.B a = none ∧ F a = none ∧ H a ≠ none) ∧
    ∀ (τ' : Type) (S' : Stor τ') (x' : τ') (H' : Hp) (fp' : List Addr), (∀ a, a ∉ fp → H a ≠ none → H' a = H a) → (∀ a, H a ≠ none → H' a ≠ none) → S'.rel C.K F H' fp' v x' → fp'.Nodup → (∀ a ∈ fp', H' a ≠ none ∧ (a ∈ fp ∨ H a = none)) → ER C F H' σ (env.set i (.st w τ' S' x')) := by
  obtain ⟨fp, q⟩ := h.sl
  obtain ⟨hi, _⟩ := List.getElem?_eq_some_iff.mp e
  obtain ⟨v, e1, r, k⟩ := q.ok i _ e
  have e1' : σ[i]? = some (some v) := by
    cases z : σ[i]? with
    | none => rw [z] at e1; cases e1
    | some o => rw [z] at e1; exact congrArg some e1
  refine ⟨v, fp i, e1', r, q.nd i hi, q.own i hi, fun τ' S' x' H' fp' hk hs r' nd' sub => ?_⟩
  have bne : ∀ a, C.B a ≠ none → a ∉ fp i := fun a m z => m (q.own i hi a z).1
  refine ⟨fun a o m => ?_, fun a o m => ?_, h.gr, fun a m => hs a (h.up a m), by simp [h.len], fun j => if j = i then fp' else fp j, fun j s' ej => ?_, fun j hj a ha => ?_, fun j l hj hl a ha hb => ?_, fun j hj => ?_⟩
  · have m' : C.B a ≠ none := by rw [m]; exact fun z => by cases z
    rw [hk a (bne a m') (same_some h.sB m')]; exact h.sB a o m
  · have m' : F a ≠ none := by rw [m]; exact fun z => by cases z
    rw [hk a (fun z => m' (q.own i hi a z).2.1) (same_some h.sF m')]; exact h.sF a o m
  · by_cases z : j = i
    · subst z
      rw [List.getElem?_set_self hi] at ej
      cases ej
      refine ⟨v, e1, ?_, ?_⟩
      · simpa using r'
      · simp only [if_pos]
        cases w with
        | none =>
          intro a ha
          rcases (sub a ha).2 with m | m
          · exact k a m
          · exact h.hnone m
        | some v0 =>
          refine ⟨k.1, fun a ha => ?_⟩
          rcases (sub a ha).2 with m | m
          · exact k.2 a m
          · exact .inl (h.hnone m)
    · rw [List.getElem?_set_ne (fun y => z y.symm)] at ej
      have hj : j < env.length := (List.getElem?_eq_some_iff.mp ej).1
      simp only [if_neg z]
      refine (q.ok j s' ej).go (fun _ _ y => y) (fun a m => hk a (bne a m) (same_some h.sB m)) fun a ha => ?_
      exact hk a (fun y => z (q.sep j i hj hi a ha y)) (q.own j hj a ha).2.2
  · have hj' : j < env.length := by simpa using hj
    by_cases z : j = i
    · subst z
      simp only [if_pos] at ha
      obtain ⟨m1, m⟩ := sub a ha
      rcases m with m | m
      · exact ⟨(q.own j hi a m).1, (q.own j hi a m).2.1, m1⟩
      · exact ⟨h.bnone m, h.fnone m, m1⟩
    · simp only [if_neg z] at ha
      obtain ⟨b, f, c⟩ := q.own j hj' a ha
      exact ⟨b, f, hs a c⟩
  · have hj' : j < env.length := by simpa using hj
    have hl' : l < env.length := by simpa using hl
    by_cases zj : j = i
    · by_cases zl : l = i
      · rw [zj, zl]
      · simp only [if_pos zj] at ha
        simp only [if_neg zl] at hb
        rcases (sub a ha).2 with m | m
        · rw [zj]; exact q.sep i l hi hl' a m hb
        · exact absurd m (q.own l hl' a hb).2.2
    · simp only [if_neg zj] at ha
      by_cases zl : l = i
      · simp only [if_pos zl] at hb
        rcases (sub a hb).2 with m | m
        · rw [zl]; exact q.sep j i hj' hi a ha m
        · exact absurd m (q.own j hj' a ha).2.2
      · simp only [if_neg zl] at hb
        exact q.sep j l hj' hl' a ha hb
  · have hj' : j < env.length := by simpa using hj
    by_cases z : j = i
    · simp only [if_pos z]; exact nd'
    · simp only [if_neg z]; exact q.nd j hj'
/-- what a slot owns is frozen: from here on it is shared -/
theorem ER.freeze (h : ER C F H σ env) (fz : Frz S E) (e : env[i]? = some (.st none τ S x)) : ∃ F', Same F F' ∧ ER C F' H σ (env.set i (.st none τ (it E) x)) := by
  obtain ⟨fp, q⟩ := h.sl
  obtain ⟨hi, _⟩ := List.getElem?_eq_some_iff.mp e
  obtain ⟨v, e1, r, k⟩ := q.ok i _ e
  have fn : ∀ a ∈ fp i, F a = none := fun a m => (q.own i hi a m).2.1
  have sF : Same F (Z.grow F H (fp i)) := same_grow fn
  have bne : ∀ a, C.B a ≠ none → a ∉ fp i := fun a m z => m (q.own i hi a z).1
  refine ⟨Z.grow F H (fp i), sF, h.sB, fun a o m => ?_, fun a m => ?_, h.up, by simp [h.len], fun j => if j = i then [] else fp j, fun j s' ej => ?_, fun j hj a ha => ?_, fun j l hj hl a ha hb => ?_, fun j hj => ?_⟩
  · unfold Z.grow at m
    by_cases z : a ∈ fp i
    · rw [if_pos z] at m; exact m
    · rw [if_neg z] at m; exact h.sF a o m
  · unfold Z.grow at m
    by_cases z : a ∈ fp i
    · exact .inr (k a z)
    · rw [if_neg z] at m; exact h.gr a m
  · by_cases z : j = i
    · subst z
      rw [List.getElem?_set_self hi] at ej
      cases ej
      simp only [if_pos]
      exact ⟨v, e1, ⟨rfl, fz.frz fn r⟩, fun _ m => nomatch m⟩
    · rw [List.getElem?_set_ne (fun y => z y.symm)] at ej
      simp only [if_neg z]
      exact (q.ok j s' ej).go sF (fun a m => rfl) fun a ha => rfl
  · have hj' : j < env.length := by simpa using hj
    by_cases z : j = i
    · simp [if_pos z] at ha
    · simp only [if_neg z] at ha
      obtain ⟨b, f, c⟩ := q.own j hj' a ha
      refine ⟨b, ?_, c⟩
      unfold Z.grow
      rw [if_neg (fun y => z (q.sep j i hj' hi a ha y))]; exact f
  · have hj' : j < env.length := by simpa using hj
    have hl' : l < env.length := by simpa using hl
    by_cases zj : j = i
    · simp [if_pos zj] at ha
    · by_cases zl : l = i
      · simp [if_pos zl] at hb
      · simp only [if_neg zj] at ha
        simp only [if_neg zl] at hb
        exact q.sep j l hj' hl' a ha hb
  · have hj' : j < env.length := by simpa using hj
    by_cases z : j = i
    · simp [if_pos z]
    · simp only [if_neg z]; exact q.nd j hj'
/-- slots renamed: f tells where each new slot stood; each is taken once or owns nothing -/
theorem ER.perm {σ' : List (Option V)} {env' : Env} (h : ER C F H σ env) (len : σ'.length = env'.length) (f : Nat → Nat)
    (hf : ∀ j s', env'[j]? = some s' → s' = .un ∨ (env[f j]? = some s' ∧ σ'[j]?.join = σ[f j]?.join ∧ ∀ l s'', env'[l]? = some s'' → s'' ≠ .un → f l = f j → l = j)) : ER C F H σ' env' := by
  classical
  obtain ⟨fp, q⟩ := h.sl
  refine ⟨h.sB, h.sF, h.gr, h.up, len, fun j => match env'[j]? with | some .un => [] | some _ => fp (f j) | none => [], fun j s' ej => ?_, fun j hj a ha => ?_, fun j l hj hl a ha hb => ?_, fun j hj => ?_⟩
  · simp only [ej]
    rcases hf j s' ej with rfl | ⟨e, eo, _⟩
    · exact rfl
    · have := q.ok (f j) s' e
      rw [← eo] at this
      cases s' with
      | un => exact rfl
      | st _ _ _ _ => exact this
      | lk _ _ _ => exact this
  · cases ej : env'[j]? with
    | none => rw [ej] at ha; cases ha
    | some s' =>
      rcases hf j s' ej with rfl | ⟨e, eo, _⟩
      · rw [ej] at ha; cases ha
      · have ha' : a ∈ fp (f j) := by
          rw [ej] at ha
          cases s' with
          | un => cases ha
          | st _ _ _ _ => exact ha
          | lk _ _ _ => exact ha
        exact q.own (f j) (List.getElem?_eq_some_iff.mp e).1 a ha'
  · cases ej : env'[j]? with
    | none => rw [ej] at ha; cases ha
    | some s' =>
      cases el : env'[l]? with
      | none => rw [el] at hb; cases hb
      | some s'' =>
        rcases hf j s' ej with rfl | ⟨e, eo, u⟩
        · rw [ej] at ha; cases ha
        · rcases hf l s'' el with rfl | ⟨e2, eo2, u2⟩
          · rw [el] at hb; cases hb
          · have ha' : a ∈ fp (f j) := by
              rw [ej] at ha
              cases s' with
              | un => cases ha
              | st _ _ _ _ => exact ha
              | lk _ _ _ => exact ha
            have hb' : a ∈ fp (f l) := by
              rw [el] at hb
              cases s'' with
              | un => cases hb
              | st _ _ _ _ => exact hb
              | lk _ _ _ => exact hb
            have hne : s'' ≠ .un := by
              rintro rfl
              rw [el] at hb; cases hb
            exact (u l s'' el hne (q.sep _ _ (List.getElem?_eq_some_iff.mp e2).1 (List.getElem?_eq_some_iff.mp e).1 a hb' ha')).symm
  · show (match env'[j]? with | some .un => [] | some _ => fp (f j) | none => []).Nodup
    cases ej : env'[j]? with
    | none => exact List.nodup_nil
    | some s' =>
      rcases hf j s' ej with rfl | ⟨e, eo, _⟩
      · exact List.nodup_nil
      · have := q.nd (f j) (List.getElem?_eq_some_iff.mp e).1
        cases s' with
        | un => exact List.nodup_nil
        | st _ _ _ _ => exact this
        | lk _ _ _ => exact this
end
end Z

set_option Elab.async false
set_option linter.all false
set_option maxRecDepth 100000
namespace Z
open PySem PySem.Spec PyProof.Rows L2

section
variable {C : Ck} {F F' H H' : Hp} {σ σs σ' : List (Option V)} {env es env' : Env} {o : Option V} {s : Slot} {τ : Type} {S : Stor τ} {E : Enc τ} {x : τ} {v : V} {w : Option V} {i : Nat} {p : Addr} {u : HO}
theorem at_app {α : Type _} {as bs : List α} {i : Nat} (n : Nat) (h : as.length = n) : (as ++ bs)[n + i]? = bs[i]? := by
  subst h; rw [List.getElem?_append_right (Nat.le_add_right _ _), Nat.add_sub_cancel_left]
theorem ER.lookF (h : ER C F H (σs ++ σ) (es ++ env)) (hl : σs.length = es.length) (e : env[i]? = some (.st w τ S x)) : ∃ v fp, σ[i]? = some (some v) ∧ S.rel C.K F H fp v x := by
  obtain ⟨v, fp, a, b⟩ := h.look (i := es.length + i) (by rw [at_app _ rfl]; exact e)
  exact ⟨v, fp, by rw [at_app _ hl] at a; exact a, b⟩
theorem ER.lookKF (h : ER C F H (σs ++ σ) (es ++ env)) (hl : σs.length = es.length) (e : env[i]? = some (.lk τ S x)) : ∃ v fp, σ[i]? = some (some v) ∧ S.rel C.K F H fp v x := by
  obtain ⟨v, fp, a, b⟩ := h.lookK (i := es.length + i) (by rw [at_app _ rfl]; exact e)
  exact ⟨v, fp, by rw [at_app _ hl] at a; exact a, b⟩
theorem ER.repF (h : ER C F H (σs ++ σ) (es ++ env)) (hl : σs.length = es.length) (e : env[i]? = some (.st w τ (it E) x)) : ∃ v, σ[i]? = some (some v) ∧ Rep C.K F v (E.enc x) := by
  obtain ⟨v, fp, a, b⟩ := h.lookF hl e
  exact ⟨v, a, b.2⟩
theorem ER.lenF (h : ER C F H (σs ++ σ) (es ++ env)) (hl : σs.length = es.length) : σ.length = env.length := by
  have := h.len; simp [hl] at this; exact this
/-- the top of the stack goes to slot i -/
theorem ER.asg (h : ER C F H (o :: (σs ++ σ)) (s :: (es ++ env))) (hl : σs.length = es.length) (hi : i < env.length) : ER C F H (σs ++ σ.set i o) (es ++ env.set i s) := by
  have hls : σ.length = env.length := h.pop.lenF hl
  refine h.perm (by simp [hl, hls]) (fun j => if j = es.length + i then 0 else j + 1) fun j s' ej => .inr ?_
  by_cases z : j = es.length + i
  · subst z
    rw [at_app _ rfl, List.getElem?_set_self hi] at ej
    cases ej
    refine ⟨by simp, ?_, fun l s'' _ _ q => ?_⟩
    · simp only [if_pos]
      rw [at_app _ hl, List.getElem?_set_self (by omega)]
      rfl
    · by_cases y : l = es.length + i
      · exact y
      · simp only [if_neg y, if_pos] at q; omega
  · refine ⟨?_, ?_, fun l s'' _ _ q => ?_⟩
    · simp only [if_neg z, List.getElem?_cons_succ]
      by_cases a : j < es.length
      · rw [List.getElem?_append_left a] at ej ⊢; exact ej
      · obtain ⟨m, rfl⟩ : ∃ m, j = es.length + m := ⟨j - es.length, by omega⟩
        rw [at_app _ rfl, List.getElem?_set_ne (by omega)] at ej
        rw [at_app _ rfl]; exact ej
    · simp only [if_neg z, List.getElem?_cons_succ]
      by_cases a : j < es.length
      · rw [List.getElem?_append_left (by omega), List.getElem?_append_left (by omega)]
      · obtain ⟨m, rfl⟩ : ∃ m, j = es.length + m := ⟨j - es.length, by omega⟩
        rw [at_app _ hl, at_app _ hl, List.getElem?_set_ne (by omega)]
    · simp only [if_neg z] at q
      by_cases y : l = es.length + i
      · simp only [if_pos y] at q; omega
      · simp only [if_neg y] at q; omega
/-- weaker slots -/
inductive Sub : Env → Env → Prop
  | nil : Sub [] []
  | keep {s : Slot} {a b : Env} : Sub a b → Sub (s :: a) (s :: b)
  | drop {s : Slot} {a b : Env} : Sub a b → Sub (s :: a) (.un :: b)
theorem Sub.get : ∀ {a b : Env}, Sub a b → ∀ (j : Nat) (s' : Slot), b[j]? = some s' → s' = Slot.un ∨ a[j]? = some s'
  | _, _, .nil, j, s', e => by simp at e
  | _, _, .keep r, 0, s', e => .inr e
  | _, _, .keep r, j + 1, s', e => by simpa using r.get j s' (by simpa using e)
  | _, _, .drop r, 0, s', e => .inl (by simp at e; exact e.symm)
  | _, _, .drop r, j + 1, s', e => by simpa using r.get j s' (by simpa using e)
theorem Sub.len : ∀ {a b : Env}, Sub a b → a.length = b.length
  | _, _, .nil => rfl
  | _, _, .keep r => congrArg (· + 1) r.len
  | _, _, .drop r => congrArg (· + 1) r.len
theorem Sub.refl : ∀ (a : Env), Sub a a
  | [] => .nil
  | _ :: a => .keep (Sub.refl a)
theorem Sub.pre : ∀ (es : Env) {a b : Env}, Sub a b → Sub (es ++ a) (es ++ b)
  | [], _, _, r => r
  | _ :: es, _, _, r => .keep (Sub.pre es r)
theorem ER.sub (h : ER C F H σ env) (q : Sub env env') : ER C F H σ env' :=
  h.perm (by rw [h.len, q.len]) id fun j s' e => (q.get j s' e).imp id fun y => ⟨y, rfl, fun l _ _ _ z => z⟩
theorem ER.subF (h : ER C F H (σs ++ σ) (es ++ env)) (q : Sub env env') : ER C F H (σs ++ σ) (es ++ env') := h.sub (q.pre es)
theorem rot_key {α : Type _} (a : α) (at_ as : List α) {n : Nat} (hlen : at_.length = n) (j : Nat) : (a :: (at_ ++ as))[j]? = (at_ ++ a :: as)[if j = 0 then n else if j ≤ n then j - 1 else j]? := by
  by_cases z : j = 0
  · subst z
    simp only [if_pos, List.getElem?_cons_zero]
    rw [List.getElem?_append_right (by omega), hlen, Nat.sub_self]; rfl
  · obtain ⟨m, rfl⟩ : ∃ m, j = m + 1 := ⟨j - 1, by omega⟩
    simp only [if_neg z, List.getElem?_cons_succ]
    by_cases y : m + 1 ≤ n
    · rw [if_pos y, Nat.add_sub_cancel, List.getElem?_append_left (by omega), List.getElem?_append_left (by omega)]
    · rw [if_neg y, List.getElem?_append_right (by omega), List.getElem?_append_right (by omega)]
      obtain ⟨q, hq⟩ : ∃ q, m = n + q := ⟨m - n, by omega⟩
      subst hq
      rw [hlen, show n + q + 1 - n = q + 1 by omega, List.getElem?_cons_succ, show n + q - n = q by omega]
/-- a pushed value stands under others: it comes to the top -/
theorem ER.rot {σt : List (Option V)} {et : Env} (h : ER C F H (σt ++ o :: σ) (et ++ s :: env)) (hl : σt.length = et.length) : ER C F H (o :: (σt ++ σ)) (s :: (et ++ env)) := by
  have hls : σ.length = env.length := by have := h.len; simp [hl] at this; omega
  refine h.perm (by simp [hl, hls]) (fun j => if j = 0 then et.length else if j ≤ et.length then j - 1 else j) fun j s' ej => .inr ?_
  refine ⟨?_, ?_, fun l s'' _ _ q => ?_⟩
  · rw [← rot_key s et env rfl]; exact ej
  · rw [rot_key o σt σ hl]
  · by_cases z : j = 0
    · subst z
      by_cases y : l = 0
      · exact y
      · simp only [if_neg y, if_pos] at q
        by_cases a : l ≤ et.length
        · rw [if_pos a] at q; omega
        · rw [if_neg a] at q; omega
    · by_cases y : l = 0
      · subst y
        simp only [if_neg z, if_pos] at q
        by_cases a : j ≤ et.length
        · rw [if_pos a] at q; omega
        · rw [if_neg a] at q; omega
      · simp only [if_neg z, if_neg y] at q
        by_cases a : j ≤ et.length
        · rw [if_pos a] at q
          by_cases b : l ≤ et.length
          · rw [if_pos b] at q; omega
          · rw [if_neg b] at q; omega
        · rw [if_neg a] at q
          by_cases b : l ≤ et.length
          · rw [if_pos b] at q; omega
          · rw [if_neg b] at q; omega
theorem unrot_key {α : Type _} (a : α) (at_ as : List α) {n : Nat} (hlen : at_.length = n) (j : Nat) : (at_ ++ a :: as)[j]? = (a :: (at_ ++ as))[if j < n then j + 1 else if j = n then 0 else j]? := by
  by_cases z : j < n
  · rw [if_pos z, List.getElem?_cons_succ, List.getElem?_append_left (by omega), List.getElem?_append_left (by omega)]
  · rw [if_neg z]
    by_cases y : j = n
    · rw [if_pos y, List.getElem?_append_right (by omega), hlen, y, Nat.sub_self]; rfl
    · rw [if_neg y, List.getElem?_append_right (by omega)]
      obtain ⟨q, rfl⟩ : ∃ q, j = n + 1 + q := ⟨j - n - 1, by omega⟩
      rw [hlen, show n + 1 + q - n = q + 1 by omega, List.getElem?_cons_succ, show n + 1 + q = (n + q) + 1 by omega, List.getElem?_cons_succ, List.getElem?_append_right (by omega), hlen, Nat.add_sub_cancel_left]
/-- the top goes below others -/
theorem ER.unrot {σt : List (Option V)} {et : Env} (h : ER C F H (o :: (σt ++ σ)) (s :: (et ++ env))) (hl : σt.length = et.length) : ER C F H (σt ++ o :: σ) (et ++ s :: env) := by
  have hls : σ.length = env.length := by have := h.len; simp [hl] at this; omega
  refine h.perm (by simp [hl, hls]) (fun j => if j < et.length then j + 1 else if j = et.length then 0 else j) fun j s' ej => .inr ?_
  refine ⟨?_, ?_, fun l s'' _ _ q => ?_⟩
  · rw [← unrot_key s et env rfl]; exact ej
  · rw [unrot_key o σt σ hl]
  · by_cases z : j < et.length
    · simp only [if_pos z] at q
      by_cases y : l < et.length
      · simp only [if_pos y] at q; omega
      · simp only [if_neg y] at q
        by_cases x : l = et.length
        · simp only [if_pos x] at q; omega
        · simp only [if_neg x] at q; omega
    · simp only [if_neg z] at q
      by_cases y : l < et.length
      · simp only [if_pos y] at q
        by_cases x : j = et.length
        · simp only [if_pos x] at q; omega
        · simp only [if_neg x] at q; omega
      · simp only [if_neg y] at q
        by_cases x : j = et.length
        · simp only [if_pos x] at q
          by_cases w : l = et.length
          · omega
          · simp only [if_neg w] at q; omega
        · simp only [if_neg x] at q
          by_cases w : l = et.length
          · simp only [if_pos w] at q; omega
          · simp only [if_neg w] at q; omega
end

/-! ### the judgements -/
section
variable (X : Cx) {Ω : Type}
/-- the weakest readings -/
def tE (e : Expr) : TE := fun σ H Q => ∀ pins s, Inv X pins σ H s → wpAny (model X.prog X.w) X.A (eval e X.env) (EP X pins σ Q) X.xe s
def tT (e : Expr) : TT := fun σ H Q => ∀ pins s, Inv X pins σ H s → wpAny (model X.prog X.w) X.A (isTrue e X.env (eval e X.env)) (TP X pins σ Q) X.xe s
def tAs (es : List Expr) : TA := fun σ H Q => ∀ pos pins s, Inv X pins σ H s → wpAny (model X.prog X.w) X.A (spliced (backTo pos (starEach es X.env))) (AP X pins σ Q) X.xe s
def tSs (st : List Stmt) : TS := fun D σ H => ∀ pins s, Inv X pins σ H s → wpAny (model X.prog X.w) X.A (execs st X.env) (SP X pins D) X.xe s
def tS1 (st : Stmt) : TS := fun D σ H => ∀ pins s, Inv X pins σ H s → wpAny (model X.prog X.w) X.A (exec st X.env) (SP X pins D) X.xe s
theorem peC {e : Expr} : PE X e (tE X e) := ⟨fun pins s σ H Q I h => h pins s I⟩
theorem ptC {e : Expr} : PT X e (tT X e) := ⟨fun pins s σ H Q I h => h pins s I⟩
theorem paC {es : List Expr} : PA X es (tAs X es) := ⟨fun pos pins s σ H Q I h => h pos pins s I⟩
theorem pssC {st : List Stmt} : PSs X st (tSs X st) := ⟨fun pins s σ H D I h => h pins s I⟩
theorem psC {st : Stmt} : PS X st (tS1 X st) := ⟨fun pins s σ H D I h => h pins s I⟩
theorem tE.of {e : Expr} {t : TE} {σ : L2.St} {H : Hp} {Q : VK} (h : PE X e t) (q : t σ H Q) : tE X e σ H Q := fun pins s I => h.run pins s σ H Q I q
theorem tT.of {e : Expr} {t : TT} {σ : L2.St} {H : Hp} {Q : Bool → Hp → Prop} (h : PT X e t) (q : t σ H Q) : tT X e σ H Q := fun pins s I => h.run pins s σ H Q I q
theorem tAs.of {es : List Expr} {t : TA} {σ : L2.St} {H : Hp} {Q : List V → Hp → Prop} (h : PA X es t) (q : t σ H Q) : tAs X es σ H Q := fun pos pins s I => h.run pos pins s σ H Q I q
theorem tSs.of {st : List Stmt} {t : TS} {σ : L2.St} {H : Hp} {D : Ends} (h : PSs X st t) (q : t D σ H) : tSs X st D σ H := fun pins s I => h.run pins s σ H D I q
theorem tS1.of {st : Stmt} {t : TS} {σ : L2.St} {H : Hp} {D : Ends} (h : PS X st t) (q : t D σ H) : tS1 X st D σ H := fun pins s I => h.run pins s σ H D I q

def LX (env : Env) (e : Expr) {τ : Type} (S : Stor τ) {P : Type} (env' : P → Env) (f : (τ → P → Option Ω) → Option Ω) : Prop :=
  ∀ (C : Ck) (F H : Hp) (σs : List (Option V)) (es : Env) (σ : List (Option V)) (k : τ → P → Option Ω) (ω : Ω) (Q : VK), C.K = X.K → σs.length = es.length → ER C F H (σs ++ σ) (es ++ env) → f k = some ω →
    (∀ a p v F' H', k a p = some ω → ER C F' H' (some v :: (σs ++ σ)) (.st none τ S a :: (es ++ env' p)) → Q v H') → tE X e σ H Q
def LT (env : Env) (e : Expr) {P : Type} (env' : P → Env) (f : (Bool → P → Option Ω) → Option Ω) : Prop :=
  ∀ (C : Ck) (F H : Hp) (σs : List (Option V)) (es : Env) (σ : List (Option V)) (k : Bool → P → Option Ω) (ω : Ω) (Q : Bool → Hp → Prop), C.K = X.K → σs.length = es.length → ER C F H (σs ++ σ) (es ++ env) → f k = some ω →
    (∀ a p F' H', k a p = some ω → ER C F' H' (σs ++ σ) (es ++ env' p) → Q a H') → tT X e σ H Q
/-- an operand: what it tells may be read as long as the slots stand -/
def LO (G : Env → Prop) (env : Env) (e : Expr) {τ : Type} (S : Stor τ) {P : Type} (env' : P → Env) (f : (τ → P → Option Ω) → Option Ω) : Prop :=
  ∀ (C : Ck) (F H : Hp) (σs : List (Option V)) (es : Env) (σ : List (Option V)) (k : τ → P → Option Ω) (ω : Ω) (Q : VK), C.K = X.K → σs.length = es.length → ER C F H (σs ++ σ) (es ++ env) → f k = some ω →
    (∀ a p v F' H' (σx : List (Option V)) (ex : Env), σx.length = ex.length → k a p = some ω → ER C F' H' (σx ++ (σs ++ σ)) (ex ++ (es ++ env' p)) →
      (∀ (F'' H'' : Hp) (σ2 : List (Option V)) (e2 env2 : Env), G env2 → σ2.length = e2.length → ER C F'' H'' (σ2 ++ (σx ++ (σs ++ σ))) (e2 ++ (ex ++ (es ++ env2))) → ∃ fp, S.rel C.K F'' H'' fp v a) → Q v H') → tE X e σ H Q
/-- arguments, from the left -/
def LA (env : Env) (xs : List Expr) {A : Type} (sl : A → Env) {P : Type} (env' : P → Env) (f : (A → P → Option Ω) → Option Ω) : Prop :=
  ∀ (C : Ck) (F H : Hp) (σs : List (Option V)) (es : Env) (σ : List (Option V)) (k : A → P → Option Ω) (ω : Ω) (Q : List V → Hp → Prop), C.K = X.K → σs.length = es.length → ER C F H (σs ++ σ) (es ++ env) → f k = some ω →
    (∀ a p (vs : List V) F' H', k a p = some ω → (vs.map some).length = (sl a).length → ER C F' H' (vs.map some ++ (σs ++ σ)) (sl a ++ (es ++ env' p)) → Q vs H') → tAs X xs σ H Q
/-- a comparison: value and test -/
def LC (env : Env) (op : CmpOp) (a b : Expr) {P : Type} (env' : P → Env) (f : (Bool → P → Option Ω) → Option Ω) : Prop :=
  ∃ r : R2, OpR X (compareOp op) r ∧ ∀ (C : Ck) (F H : Hp) (σs : List (Option V)) (es : Env) (σ : List (Option V)) (k : Bool → P → Option Ω) (ω : Ω) (Q : VK), C.K = X.K → σs.length = es.length → ER C F H (σs ++ σ) (es ++ env) → f k = some ω →
    (∀ c p F' H', k c p = some ω → ER C F' H' (σs ++ σ) (es ++ env' p) → Q (.bl c) H') → tOp r (tE X a) (tE X b) σ H Q
end

/-- a label: where a break or a continue goes -/
structure Lp (Ω : Type) where
  J : Type
  env : J → Env
  k : J → Option Ω
def noLp (Ω : Type) : Lp Ω := ⟨Empty, fun e => e.elim, fun e => e.elim⟩
section
variable (X : Cx)
def LB {R I Ω : Type} (S : Stor R) (envR : I → Env) (kr : R → I → Option Ω) (bk ct : Lp Ω) (env : Env) (sts : List Stmt) {J : Type} (envJ : J → Env) (f : (J → Option Ω) → Option Ω) : Prop :=
  ∀ (C : Ck) (F H : Hp) (σs : List (Option V)) (es : Env) (σ : List (Option V)) (kn : J → Option Ω) (ω : Ω) (D : Ends), C.K = X.K → σs.length = es.length → ER C F H (σs ++ σ) (es ++ env) → f kn = some ω →
    (∀ j F' H' σ', kn j = some ω → ER C F' H' (σs ++ σ') (es ++ envJ j) → D.nx σ' H') →
    (∀ j F' H' σ', bk.k j = some ω → ER C F' H' (σs ++ σ') (es ++ bk.env j) → D.bk σ' H') →
    (∀ j F' H' σ', ct.k j = some ω → ER C F' H' (σs ++ σ') (es ++ ct.env j) → D.ct σ' H') →
    (∀ a i v F' H' σ', kr a i = some ω → ER C F' H' (some v :: (σs ++ σ')) (.st none R S a :: (es ++ envR i)) → D.rt v H') → tSs X sts D σ H
end

/-! ### names, constants -/
section
variable {X : Cx} {Ω : Type} {env env1 : Env} {τ : Type} {S : Stor τ} {E : Enc τ} {x : τ} {w : Option V} {i : Nat} {nm : Str} {pos : Pos} {e a b : Expr} {P P1 P2 : Type} {f : (τ → P → Option Ω) → Option Ω} {env' : P → Env}
theorem lx_var (i : Nat) (cp : Cp S) (e : env[i]? = some (.st w τ S x)) (hN : X.N[i]? = some nm := by rfl) (hv : Vis X.env.scope nm := by first | exact Or.inl rfl | exact Or.inr (Or.inl rfl) | exact Or.inr (Or.inr rfl)) (hd : (nm == ("__debug__" : Str)) = false := by decide) (hcd : (nm == ("__classdict__" : Str)) = false := by decide) :
    LX X env (.Name nm pos) S (fun _ : Unit => env) (fun (k : τ → Unit → Option Ω) => k x ()) := by
  refine fun C F H σs es σ k ω Q hK hl h hk q => tE.of X (pe_var hN hv hd hcd) ?_
  obtain ⟨v, fp, e1, r⟩ := h.lookF hl e
  have z := cp.nil r
  subst z
  exact ⟨v, e1, q x () v F H hk (h.push0 ⟨v, rfl, r, fun _ m => nomatch m⟩)⟩
/-- an own object is read and shared from here on -/
theorem lx_frz (i : Nat) (fz : Frz S E) (e : env[i]? = some (.st none τ S x)) (hN : X.N[i]? = some nm := by rfl) (hv : Vis X.env.scope nm := by first | exact Or.inl rfl | exact Or.inr (Or.inl rfl) | exact Or.inr (Or.inr rfl)) (hd : (nm == ("__debug__" : Str)) = false := by decide) (hcd : (nm == ("__classdict__" : Str)) = false := by decide) :
    LX X env (.Name nm pos) (it E) (fun _ : Unit => env.set i (.st none τ (it E) x)) (fun (k : τ → Unit → Option Ω) => k x ()) := by
  refine fun C F H σs es σ k ω Q hK hl h hk q => tE.of X (pe_var hN hv hd hcd) ?_
  obtain ⟨F', sF, h'⟩ := h.freeze (i := es.length + i) fz (by rw [at_app _ rfl]; exact e)
  have h2 : ER C F' H (σs ++ σ) (es ++ env.set i (.st none τ (it E) x)) := by
    rw [List.set_append_right _ _ (Nat.le_add_right _ _), Nat.add_sub_cancel_left] at h'
    exact h'
  obtain ⟨v, e1, r⟩ := h2.repF (i := i) (E := E) (x := x) (w := none) hl (by rw [List.getElem?_set_self (List.getElem?_eq_some_iff.mp e).1])
  exact ⟨v, e1, q x () v F' H hk (h2.pushSh r)⟩
/-- an own object is handed on -/
theorem lx_move (i : Nat) (e : env[i]? = some (.st none τ S x)) (hN : X.N[i]? = some nm := by rfl) (hv : Vis X.env.scope nm := by first | exact Or.inl rfl | exact Or.inr (Or.inl rfl) | exact Or.inr (Or.inr rfl)) (hd : (nm == ("__debug__" : Str)) = false := by decide) (hcd : (nm == ("__classdict__" : Str)) = false := by decide) :
    LX X env (.Name nm pos) S (fun _ : Unit => env.set i .un) (fun (k : τ → Unit → Option Ω) => k x ()) := by
  refine fun C F H σs es σ k ω Q hK hl h hk q => tE.of X (pe_var hN hv hd hcd) ?_
  obtain ⟨v, fp, e1, r⟩ := h.lookF hl e
  refine ⟨v, e1, q x () v F H hk ?_⟩
  have hi := (List.getElem?_eq_some_iff.mp e).1
  refine h.perm (by have := h.len; simp at this ⊢; omega) (fun j => if j = 0 then es.length + i else j - 1) fun j s' ej => ?_
  cases j with
  | zero =>
    simp at ej; subst ej
    refine .inr ⟨?_, ?_, fun l s'' el hne hq => ?_⟩
    · simp only [if_pos]; rw [at_app _ rfl]; exact e
    · simp only [if_pos]; rw [at_app _ hl, e1]; rfl
    · by_cases z : l = 0
      · exact z
      · exfalso
        simp only [if_neg z, if_pos] at hq
        obtain ⟨m, rfl⟩ : ∃ m, l = m + 1 := ⟨l - 1, by omega⟩
        have hm : m = es.length + i := by omega
        subst hm
        rw [List.getElem?_cons_succ, at_app _ rfl, List.getElem?_set_self hi] at el
        exact hne (Option.some.inj el).symm
  | succ j =>
    rw [List.getElem?_cons_succ] at ej
    by_cases z : j = es.length + i
    · subst z
      rw [at_app _ rfl, List.getElem?_set_self hi] at ej
      exact .inl (Option.some.inj ej).symm
    · refine .inr ⟨?_, by simp, fun l s'' el hne hq => ?_⟩
      · simp only [Nat.add_one_sub_one, if_neg (Nat.succ_ne_zero j)]
        by_cases y : j < es.length
        · rw [List.getElem?_append_left y] at ej ⊢; exact ej
        · obtain ⟨m, rfl⟩ : ∃ m, j = es.length + m := ⟨j - es.length, by omega⟩
          rw [at_app _ rfl, List.getElem?_set_ne (by omega)] at ej
          rw [at_app _ rfl]; exact ej
      · by_cases y : l = 0
        · subst y; simp only [if_pos, if_neg (Nat.succ_ne_zero j)] at hq; omega
        · simp only [if_neg y, if_neg (Nat.succ_ne_zero j)] at hq; omega
theorem lx_c {v : V} (hp : PE X e (tC v)) (r : ∀ F, Rep X.K F v (E.enc x)) : LX X env e (it E) (fun _ : Unit => env) (fun (k : τ → Unit → Option Ω) => k x ()) :=
  fun C F H σs es σ k ω Q hK hl h hk q => tE.of X hp (q x () v F H hk (h.pushSh (by rw [hK]; exact r F)))
theorem lx_int {n : Int} {j : Nat} : LX X env (.Constant (.int n) j pos) (it eI) (fun _ : Unit => env) (fun (k : Int → Unit → Option Ω) => k n ()) := lx_c pe_int fun _ => .int n
theorem lx_bl {c : Bool} {j : Nat} : LX X env (.Constant (.bool c) j pos) (it eB) (fun _ : Unit => env) (fun (k : Bool → Unit → Option Ω) => k c ()) := lx_c pe_bl fun _ => .bl c
theorem lx_str {c : Str} {j : Nat} : LX X env (.Constant (.str c) j pos) (it eS) (fun _ : Unit => env) (fun (k : Str → Unit → Option Ω) => k c ()) := lx_c pe_str fun _ => .str c
theorem lx_non {j : Nat} : LX X env (.Constant .none j pos) (it eN) (fun _ : Unit => env) (fun (k : Unit → Unit → Option Ω) => k () ()) := lx_c pe_non fun _ => .non
/-- what is told may be taken for another kind of the same data -/
theorem lx_as {τ' : Type} {E' : Enc τ'} (h : LX X env e (it E) env' f) (g : τ → τ') (hg : ∀ a, E'.enc (g a) = E.enc a) : LX X env e (it E') env' (fun (k : τ' → P → Option Ω) => f fun a p => k (g a) p) := by
  refine fun C F H σs es σ k ω Q hK hl hr hk q => h C F H σs es σ _ ω Q hK hl hr hk fun a p v F' H' hka h' => q (g a) p v F' H' hka ?_
  obtain ⟨v', fp, e1, r⟩ := h'.look (i := 0) rfl
  simp at e1; subst e1
  exact h'.pop.pushSh (by rw [hg]; exact r.2)
/-- .. a cast: where the data are of another kind the walk is not followed -/
theorem lx_cast {τ' : Type} {E' : Enc τ'} (h : LX X env e (it E) env' f) (g : τ → Option τ') (hg : ∀ a b, g a = some b → E'.enc b = E.enc a) : LX X env e (it E') env' (fun (k : τ' → P → Option Ω) => f fun a p => (g a).bind fun b => k b p) := by
  refine fun C F H σs es σ k ω Q hK hl hr hk q => h C F H σs es σ _ ω Q hK hl hr hk fun a p v F' H' hka h' => ?_
  cases z : g a with
  | none => rw [z] at hka; cases hka
  | some b =>
    rw [z] at hka
    obtain ⟨v', fp, e1, r⟩ := h'.look (i := 0) rfl
    simp at e1; subst e1
    exact q b p v F' H' hka (h'.pop.pushSh (by rw [hg a b z]; exact r.2))
/-- own objects that were made are shared -/
theorem lx_sh (fz : Frz S E) (h : LX X env e S env' f) : LX X env e (it E) env' f := by
  refine fun C F H σs es σ k ω Q hK hl hr hk q => h C F H σs es σ k ω Q hK hl hr hk fun a p v F' H' hka h' => ?_
  obtain ⟨F2, sF, h2⟩ := h'.freeze (i := 0) fz rfl
  exact q a p v F2 H' hka h2
/-- the operands -/
theorem lo_of (h : LX X env e S env' f) : LO X (fun _ => True) env e S env' f := by
  refine fun C F H σs es σ k ω Q hK hl hr hk q => h C F H σs es σ k ω Q hK hl hr hk fun a p v F' H' hka h' => ?_
  refine q a p v F' H' [some v] [.st none τ S a] rfl hka h' fun F'' H'' σ2 e2 env2 _ hl2 h2 => ?_
  obtain ⟨v', fp, e1, r⟩ := h2.look (i := e2.length + 0) (by rw [at_app _ rfl]; rfl)
  rw [at_app _ hl2] at e1
  simp at e1; subst e1
  exact ⟨fp, r⟩
theorem lo_var (i : Nat) (e : env[i]? = some (.st w τ S x)) (hN : X.N[i]? = some nm := by rfl) (hv : Vis X.env.scope nm := by first | exact Or.inl rfl | exact Or.inr (Or.inl rfl) | exact Or.inr (Or.inr rfl)) (hd : (nm == ("__debug__" : Str)) = false := by decide) (hcd : (nm == ("__classdict__" : Str)) = false := by decide) :
    LO X (fun en => en[i]? = some (.st w τ S x)) env (.Name nm pos) S (fun _ : Unit => env) (fun (k : τ → Unit → Option Ω) => k x ()) := by
  refine fun C F H σs es σ k ω Q hK hl h hk q => tE.of X (pe_var hN hv hd hcd) ?_
  obtain ⟨v, fp, e1, r⟩ := h.lookF hl e
  refine ⟨v, e1, q x () v F H [] [] rfl hk h fun F'' H'' σ2 e2 env2 hg hl2 h2 => ?_⟩
  have h3 : ER C F'' H'' ((σ2 ++ σs) ++ σ) ((e2 ++ es) ++ env2) := by simpa [List.append_assoc] using h2
  obtain ⟨v', fp', e1', r'⟩ := h3.lookF (i := i) (τ := τ) (S := S) (x := x) (w := w) (by simp [hl, hl2]) hg
  rw [e1] at e1'; cases e1'
  exact ⟨fp', r'⟩
theorem lo_lk (i : Nat) (e : env[i]? = some (.lk τ S x)) (hN : X.N[i]? = some nm := by rfl) (hv : Vis X.env.scope nm := by first | exact Or.inl rfl | exact Or.inr (Or.inl rfl) | exact Or.inr (Or.inr rfl)) (hd : (nm == ("__debug__" : Str)) = false := by decide) (hcd : (nm == ("__classdict__" : Str)) = false := by decide) :
    LO X (fun en => en[i]? = some (.lk τ S x)) env (.Name nm pos) S (fun _ : Unit => env) (fun (k : τ → Unit → Option Ω) => k x ()) := by
  refine fun C F H σs es σ k ω Q hK hl h hk q => tE.of X (pe_var hN hv hd hcd) ?_
  obtain ⟨v, fp, e1, r⟩ := h.lookKF hl e
  refine ⟨v, e1, q x () v F H [] [] rfl hk h fun F'' H'' σ2 e2 env2 hg hl2 h2 => ?_⟩
  have h3 : ER C F'' H'' ((σ2 ++ σs) ++ σ) ((e2 ++ es) ++ env2) := by simpa [List.append_assoc] using h2
  obtain ⟨v', fp', e1', r'⟩ := h3.lookKF (i := i) (τ := τ) (S := S) (x := x) (by simp [hl, hl2]) hg
  rw [e1] at e1'; cases e1'
  exact ⟨fp', r'⟩
end
end Z

set_option Elab.async false
set_option linter.all false
set_option maxRecDepth 100000
namespace Z
open PySem PySem.Spec PyProof.Rows L2

/-- a check on the way: where it fails the walk is not followed -/
def ck {Ω : Type} (b : Bool) (k : Option Ω) : Option Ω := if b then k else none
theorem ck_some {Ω : Type} {b : Bool} {k : Option Ω} {ω : Ω} (h : ck b k = some ω) : b = true ∧ k = some ω := by
  unfold ck at h
  cases b with
  | true => exact ⟨rfl, by simpa using h⟩
  | false => simp at h
@[simp] theorem ck_true {Ω : Type} (k : Option Ω) : ck true k = k := rfl
theorem bind_some {α Ω : Type} {o : Option α} {k : α → Option Ω} {ω : Ω} (h : o.bind k = some ω) : ∃ a, o = some a ∧ k a = some ω := by
  cases o with
  | none => cases h
  | some a => exact ⟨a, rfl, h⟩

section
variable {X : Cx} {Ω : Type} {env : Env} {nm : Str} {pos : Pos} {a b : Expr} {P P1 P2 : Type} {τ τ1 τ2 α β : Type} {S : Stor τ} {S1 : Stor τ1} {S2 : Stor τ2} {E : Enc τ} {E1 : Enc τ1} {E2 : Enc τ2}
  {G : Env → Prop} {G1 : Env → Prop} {G2 : P1 → Env → Prop} {e1 : P1 → Env} {e2 : P1 → P2 → Env} {fa : (τ1 → P1 → Option Ω) → Option Ω} {fb : P1 → (τ2 → P2 → Option Ω) → Option Ω}

theorem lo_run (ha : LO X G env a S1 e1 fa) (g1 : ∀ p1, G (e1 p1)) {C : Ck} {F H : Hp} {σs : List (Option V)} {es : Env} {σ : List (Option V)} {k : τ1 → P1 → Option Ω} {ω : Ω} {R : V → Hp → Prop} (hK : C.K = X.K) (hl : σs.length = es.length)
    (h : ER C F H (σs ++ σ) (es ++ env)) (hk : fa k = some ω)
    (q : ∀ x p1 v F' H' fp, k x p1 = some ω → ER C F' H' (σs ++ σ) (es ++ e1 p1) → S1.rel C.K F' H' fp v x → R v H') : tE X a σ H R :=
  ha C F H σs es σ k ω R hK hl h hk fun x p1 v F' H' σx ex hlx hk' h' r' => by
    obtain ⟨fp, rr⟩ := r' F' H' [] [] (e1 p1) (g1 p1) rfl h'
    exact q x p1 v F' H' fp hk' (h'.popN hlx) rr
/-- two operands in a row -/
theorem op2_run (ha : LO X G1 env a S1 e1 fa) (hb : ∀ p1, LO X (G2 p1) (e1 p1) b S2 (e2 p1) (fb p1)) (g1 : ∀ p1 p2, G1 (e2 p1 p2)) (g2 : ∀ p1 p2, G2 p1 (e2 p1 p2))
    {C : Ck} {F H : Hp} {σs : List (Option V)} {es : Env} {σ : List (Option V)} {k : τ1 → P1 → τ2 → P2 → Option Ω} {ω : Ω} {R : V → V → Hp → Prop} (hK : C.K = X.K) (hl : σs.length = es.length)
    (h : ER C F H (σs ++ σ) (es ++ env)) (hk : (fa fun x p1 => fb p1 fun y p2 => k x p1 y p2) = some ω)
    (q : ∀ x p1 y p2 v u F' H' fp fq, k x p1 y p2 = some ω → ER C F' H' (σs ++ σ) (es ++ e2 p1 p2) → S1.rel C.K F' H' fp v x → S2.rel C.K F' H' fq u y → R v u H') :
    tE X a σ H fun v H1 => tE X b σ H1 fun u H2 => R v u H2 :=
  ha C F H σs es σ _ ω _ hK hl h hk fun x p1 v F' H' σx ex hlx hk' h' r' =>
    hb p1 C F' H' (σx ++ σs) (ex ++ es) σ _ ω _ hK (by simp [hl, hlx]) (by simpa [List.append_assoc] using h') hk' fun y p2 u F2 H2 σy ey hly hk2 h2 r2 => by
      have h3 : ER C F2 H2 (σy ++ (σx ++ (σs ++ σ))) (ey ++ (ex ++ (es ++ e2 p1 p2))) := by simpa [List.append_assoc] using h2
      obtain ⟨fp, rr⟩ := r' F2 H2 σy ey (e2 p1 p2) (g1 p1 p2) hly h3
      obtain ⟨fq, rq⟩ := r2 F2 H2 [] [] (e2 p1 p2) (g2 p1 p2) rfl h2
      exact q x p1 y p2 v u F2 H2 fp fq hk2 ((h3.popN hly).popN hlx) rr rq

/-! ### numbers -/
/-- an operator of two ints, by its check and its value -/
theorem lx_opI {op : Operator} {r : R2} {c : Int → Int → Bool} {g : Int → Int → Int} (ho : OpR X (binaryOp op) r) (hr : ∀ i j H (Q : VK), c i j = true → Q (.int (g i j)) H → r (.int i) (.int j) H Q)
    {fa : (Int → P1 → Option Ω) → Option Ω} {fb : P1 → (Int → P2 → Option Ω) → Option Ω} (ha : LX X env a (it eI) e1 fa) (hb : ∀ p1, LX X (e1 p1) b (it eI) (e2 p1) (fb p1)) :
    LX X env (.BinOp a op b pos) (it eI) (fun p : P1 × P2 => e2 p.1 p.2) (fun k => fa fun x p1 => fb p1 fun y p2 => ck (c x y) (k (g x y) (p1, p2))) :=
  fun C F H σs es σ k ω Q hK hl h hk q => tE.of X (pe_op ho (peC X) (peC X)) (op2_run (lo_of ha) (fun p1 => lo_of (hb p1)) (fun _ _ => trivial) (fun _ _ => trivial) hK hl h hk
    fun x p1 y p2 v u F' H' fp fq hk' h' r1 r2 => by
      obtain ⟨hc, hk'⟩ := ck_some hk'
      obtain ⟨_, r1⟩ := r1
      obtain ⟨_, r2⟩ := r2
      cases r1; cases r2
      exact hr x y H' Q hc (q _ (p1, p2) _ F' H' hk' (h'.pushSh (.int _))))
/-- .. that needs no check -/
theorem lx_opT {op : Operator} {r : R2} {g : Int → Int → Int} (ho : OpR X (binaryOp op) r) (hr : ∀ i j H (Q : VK), Q (.int (g i j)) H → r (.int i) (.int j) H Q)
    {fa : (Int → P1 → Option Ω) → Option Ω} {fb : P1 → (Int → P2 → Option Ω) → Option Ω} (ha : LX X env a (it eI) e1 fa) (hb : ∀ p1, LX X (e1 p1) b (it eI) (e2 p1) (fb p1)) :
    LX X env (.BinOp a op b pos) (it eI) (fun p : P1 × P2 => e2 p.1 p.2) (fun k => fa fun x p1 => fb p1 fun y p2 => k (g x y) (p1, p2)) :=
  fun C F H σs es σ k ω Q hK hl h hk q => tE.of X (pe_op ho (peC X) (peC X)) (op2_run (lo_of ha) (fun p1 => lo_of (hb p1)) (fun _ _ => trivial) (fun _ _ => trivial) hK hl h hk
    fun x p1 y p2 v u F' H' fp fq hk' h' r1 r2 => by
      obtain ⟨_, r1⟩ := r1
      obtain ⟨_, r2⟩ := r2
      cases r1; cases r2
      exact hr x y H' Q (q _ (p1, p2) _ F' H' hk' (h'.pushSh (.int _))))
section
variable {fa : (Int → P1 → Option Ω) → Option Ω} {fb : P1 → (Int → P2 → Option Ω) → Option Ω}
theorem lx_add (ha : LX X env a (it eI) e1 fa) (hb : ∀ p1, LX X (e1 p1) b (it eI) (e2 p1) (fb p1)) :
    LX X env (.BinOp a .Add b pos) (it eI) (fun p : P1 × P2 => e2 p.1 p.2) (fun k => fa fun x p1 => fb p1 fun y p2 => k (x + y) (p1, p2)) := lx_opT op_add (fun i j _ _ q => ⟨i, j, rfl, rfl, q⟩) ha hb
theorem lx_sub (ha : LX X env a (it eI) e1 fa) (hb : ∀ p1, LX X (e1 p1) b (it eI) (e2 p1) (fb p1)) :
    LX X env (.BinOp a .Sub b pos) (it eI) (fun p : P1 × P2 => e2 p.1 p.2) (fun k => fa fun x p1 => fb p1 fun y p2 => k (x - y) (p1, p2)) := lx_opT op_sub (fun i j _ _ q => ⟨i, j, rfl, rfl, q⟩) ha hb
/-- a product: one factor is below 2 ^ 64 -/
def mulOk (i j : Int) : Bool := decide ((-(2 ^ 64) < i ∧ i < 2 ^ 64) ∨ (-(2 ^ 64) < j ∧ j < 2 ^ 64))
def divOk (j : Int) : Bool := decide (j ≠ 0 ∧ j.natAbs < 1073741824)
def modOk (j : Int) : Bool := decide (j ≠ 0)
def powOk (i j : Int) : Bool := decide (0 ≤ j ∧ j ≤ 1000000 ∧ i.natAbs < 2 ^ 64)
theorem lx_mul (ha : LX X env a (it eI) e1 fa) (hb : ∀ p1, LX X (e1 p1) b (it eI) (e2 p1) (fb p1)) :
    LX X env (.BinOp a .Mult b pos) (it eI) (fun p : P1 × P2 => e2 p.1 p.2) (fun k => fa fun x p1 => fb p1 fun y p2 => ck (mulOk x y) (k (x * y) (p1, p2))) := lx_opI (c := mulOk) op_mul (fun i j _ _ c q => ⟨i, j, rfl, rfl, of_decide_eq_true (p := (-(2 ^ 64) < i ∧ i < 2 ^ 64) ∨ (-(2 ^ 64) < j ∧ j < 2 ^ 64)) c, q⟩) ha hb
theorem lx_fdiv (ha : LX X env a (it eI) e1 fa) (hb : ∀ p1, LX X (e1 p1) b (it eI) (e2 p1) (fb p1)) :
    LX X env (.BinOp a .FloorDiv b pos) (it eI) (fun p : P1 × P2 => e2 p.1 p.2) (fun k => fa fun x p1 => fb p1 fun y p2 => ck (divOk y) (k (x.fdiv y) (p1, p2))) := lx_opI (c := fun _ y => divOk y) op_fdivN (fun i j _ _ c q => ⟨i, j, rfl, rfl, of_decide_eq_true (p := j ≠ 0 ∧ j.natAbs < 1073741824) c, q⟩) ha hb
theorem lx_mod (ha : LX X env a (it eI) e1 fa) (hb : ∀ p1, LX X (e1 p1) b (it eI) (e2 p1) (fb p1)) :
    LX X env (.BinOp a .Mod b pos) (it eI) (fun p : P1 × P2 => e2 p.1 p.2) (fun k => fa fun x p1 => fb p1 fun y p2 => ck (modOk y) (k (x.fmod y) (p1, p2))) := lx_opI (c := fun _ y => modOk y) op_modN (fun i j _ _ c q => ⟨i, j, rfl, rfl, of_decide_eq_true c, q⟩) ha hb
theorem lx_pow (ha : LX X env a (it eI) e1 fa) (hb : ∀ p1, LX X (e1 p1) b (it eI) (e2 p1) (fb p1)) :
    LX X env (.BinOp a .Pow b pos) (it eI) (fun p : P1 × P2 => e2 p.1 p.2) (fun k => fa fun x p1 => fb p1 fun y p2 => ck (powOk x y) (k (x ^ y.toNat) (p1, p2))) := lx_opI (c := powOk) op_pow (fun i j _ _ c q => ⟨i, j, rfl, rfl, of_decide_eq_true (p := 0 ≤ j ∧ j ≤ 1000000 ∧ i.natAbs < 2 ^ 64) c, q⟩) ha hb
theorem lx_neg (ha : LX X env a (it eI) e1 fa) : LX X env (.UnaryOp .USub a pos) (it eI) e1 (fun k => fa fun x p1 => k (-x) p1) :=
  fun C F H σs es σ k ω Q hK hl h hk q => tE.of X (pe_un un_neg (peC X)) (lo_run (lo_of ha) (fun _ => trivial) hK hl h hk fun x p1 v F' H' fp hk' h' r => by
    obtain ⟨_, r⟩ := r
    cases r
    exact ⟨x, rfl, q _ p1 _ F' H' hk' (h'.pushSh (.int _))⟩)
end
/-! ### comparisons -/
theorem lc_cmp {op : CmpOp} {r : R2} {g : τ1 → τ2 → Bool} (ho : OpR X (compareOp op) r) (ha : LO X G1 env a S1 e1 fa) (hb : ∀ p1, LO X (G2 p1) (e1 p1) b S2 (e2 p1) (fb p1)) (g1 : ∀ p1 p2, G1 (e2 p1 p2)) (g2 : ∀ p1 p2, G2 p1 (e2 p1 p2))
    (hr : ∀ K F H fp fq v u x y (Q : VK), K = X.K → Same F H → S1.rel K F H fp v x → S2.rel K F H fq u y → Q (.bl (g x y)) H → r v u H Q) :
    LC X env op a b (fun p : P1 × P2 => e2 p.1 p.2) (fun k => fa fun x p1 => fb p1 fun y p2 => k (g x y) (p1, p2)) :=
  ⟨r, ho, fun C F H σs es σ k ω Q hK hl h hk q => op2_run ha hb g1 g2 hK hl h hk fun x p1 y p2 v u F' H' fp fq hk' h' r1 r2 =>
    hr C.K F' H' fp fq v u x y Q hK h'.sF r1 r2 (q _ (p1, p2) F' H' hk' h')⟩
/-- .. with a check -/
theorem lc_cmpC {op : CmpOp} {r : R2} {c g : τ1 → τ2 → Bool} (ho : OpR X (compareOp op) r) (ha : LO X G1 env a S1 e1 fa) (hb : ∀ p1, LO X (G2 p1) (e1 p1) b S2 (e2 p1) (fb p1)) (g1 : ∀ p1 p2, G1 (e2 p1 p2)) (g2 : ∀ p1 p2, G2 p1 (e2 p1 p2))
    (hr : ∀ K F H fp fq v u x y (Q : VK), K = X.K → Same F H → c x y = true → S1.rel K F H fp v x → S2.rel K F H fq u y → Q (.bl (g x y)) H → r v u H Q) :
    LC X env op a b (fun p : P1 × P2 => e2 p.1 p.2) (fun k => fa fun x p1 => fb p1 fun y p2 => ck (c x y) (k (g x y) (p1, p2))) :=
  ⟨r, ho, fun C F H σs es σ k ω Q hK hl h hk q => op2_run ha hb g1 g2 hK hl h hk fun x p1 y p2 v u F' H' fp fq hk' h' r1 r2 => by
    obtain ⟨hc, hk'⟩ := ck_some hk'
    exact hr C.K F' H' fp fq v u x y Q hK h'.sF hc r1 r2 (q _ (p1, p2) F' H' hk' h')⟩
theorem lx_cmp {op : CmpOp} {e' : P → Env} {f : (Bool → P → Option Ω) → Option Ω} (h : LC X env op a b e' f) (hm : behindInMarks op b = false) : LX X env (.Compare a [op] [b] pos) (it eB) e' f := by
  obtain ⟨r, ho, h⟩ := h
  exact fun C F H σs es σ k ω Q hK hl hr hk q => tE.of X (pe_cmpR ho (peC X) (peC X) hm) (h C F H σs es σ k ω Q hK hl hr hk fun c p F' H' hk' h' => q c p _ F' H' hk' (h'.pushSh (.bl _)))
theorem lt_cmp {op : CmpOp} {e' : P → Env} {f : (Bool → P → Option Ω) → Option Ω} (h : LC X env op a b e' f) (hm : behindInMarks op b = false) : LT X env (.Compare a [op] [b] pos) e' f := by
  obtain ⟨r, ho, h⟩ := h
  exact fun C F H σs es σ k ω Q hK hl hr hk q => tT.of X (pt_cmpR ho (peC X) (peC X) hm) (h C F H σs es σ k ω _ hK hl hr hk fun c p F' H' hk' h' => ⟨c, rfl, q c p F' H' hk' h'⟩)
section
variable {fa : (Int → P1 → Option Ω) → Option Ω} {fb : P1 → (Int → P2 → Option Ω) → Option Ω}
theorem lc_int {op : CmpOp} {r : R2} {g : Int → Int → Bool} (ho : OpR X (compareOp op) r) (hr : ∀ i j H (Q : VK), Q (.bl (g i j)) H → r (.int i) (.int j) H Q) (ha : LX X env a (it eI) e1 fa) (hb : ∀ p1, LX X (e1 p1) b (it eI) (e2 p1) (fb p1)) :
    LC X env op a b (fun p : P1 × P2 => e2 p.1 p.2) (fun k => fa fun x p1 => fb p1 fun y p2 => k (g x y) (p1, p2)) :=
  lc_cmp ho (lo_of ha) (fun p1 => lo_of (hb p1)) (fun _ _ => trivial) (fun _ _ => trivial) fun K F H fp fq v u x y Q _ _ r1 r2 q => by
    obtain ⟨_, r1⟩ := r1
    obtain ⟨_, r2⟩ := r2
    cases r1; cases r2
    exact hr x y H Q q
theorem lc_lt (ha : LX X env a (it eI) e1 fa) (hb : ∀ p1, LX X (e1 p1) b (it eI) (e2 p1) (fb p1)) : LC X env .Lt a b (fun p : P1 × P2 => e2 p.1 p.2) (fun k => fa fun x p1 => fb p1 fun y p2 => k (decide (x < y)) (p1, p2)) := lc_int op_lt (fun i j _ _ q => ⟨i, j, rfl, rfl, q⟩) ha hb
theorem lc_le (ha : LX X env a (it eI) e1 fa) (hb : ∀ p1, LX X (e1 p1) b (it eI) (e2 p1) (fb p1)) : LC X env .LtE a b (fun p : P1 × P2 => e2 p.1 p.2) (fun k => fa fun x p1 => fb p1 fun y p2 => k (decide (x ≤ y)) (p1, p2)) := lc_int op_le (fun i j _ _ q => ⟨i, j, rfl, rfl, q⟩) ha hb
theorem lc_gt (ha : LX X env a (it eI) e1 fa) (hb : ∀ p1, LX X (e1 p1) b (it eI) (e2 p1) (fb p1)) : LC X env .Gt a b (fun p : P1 × P2 => e2 p.1 p.2) (fun k => fa fun x p1 => fb p1 fun y p2 => k (decide (y < x)) (p1, p2)) := lc_int op_gt (fun i j _ _ q => ⟨i, j, rfl, rfl, q⟩) ha hb
theorem lc_ge (ha : LX X env a (it eI) e1 fa) (hb : ∀ p1, LX X (e1 p1) b (it eI) (e2 p1) (fb p1)) : LC X env .GtE a b (fun p : P1 × P2 => e2 p.1 p.2) (fun k => fa fun x p1 => fb p1 fun y p2 => k (decide (y ≤ x)) (p1, p2)) := lc_int op_ge (fun i j _ _ q => ⟨i, j, rfl, rfl, q⟩) ha hb
theorem lc_eqI (ha : LX X env a (it eI) e1 fa) (hb : ∀ p1, LX X (e1 p1) b (it eI) (e2 p1) (fb p1)) : LC X env .Eq a b (fun p : P1 × P2 => e2 p.1 p.2) (fun k => fa fun x p1 => fb p1 fun y p2 => k (decide (x = y)) (p1, p2)) :=
  lc_int op_eq (fun i j _ _ q => ⟨rfl, by simpa using q⟩) ha hb
theorem lc_neI (ha : LX X env a (it eI) e1 fa) (hb : ∀ p1, LX X (e1 p1) b (it eI) (e2 p1) (fb p1)) : LC X env .NotEq a b (fun p : P1 × P2 => e2 p.1 p.2) (fun k => fa fun x p1 => fb p1 fun y p2 => k (!decide (x = y)) (p1, p2)) :=
  lc_int op_ne (fun i j _ _ q => ⟨rfl, by simpa using q⟩) ha hb
end
/-! ### truth -/
theorem lt_val {e' : P → Env} {f : (Bool → P → Option Ω) → Option Ω} (h : LX X env a (it eB) e' f) (he : ∀ whole, isTrue a X.env whole = (do let v ← whole; standAt a.pos; holding [v] (truthy v)) := by intro _; rfl) : LT X env a e' f :=
  fun C F H σs es σ k ω Q hK hl hr hk q => tT.of X (pt_val (peC X) he) (lo_run (lo_of h) (fun _ => trivial) hK hl hr hk fun x p1 v F' H' fp hk' h' r => by
    obtain ⟨_, r⟩ := r
    cases r
    exact ⟨x, rfl, q x p1 F' H' hk' h'⟩)
theorem lt_not {e' : P → Env} {f : (Bool → P → Option Ω) → Option Ω} (h : LT X env a e' f) : LT X env (.UnaryOp .Not a pos) e' (fun k => f fun c p => k (!c) p) :=
  fun C F H σs es σ k ω Q hK hl hr hk q => tT.of X (pt_not (ptC X)) (h C F H σs es σ _ ω _ hK hl hr hk fun c p F' H' hk' h' => q _ p F' H' hk' h')
end
end Z

set_option Elab.async false
set_option linter.all false
set_option maxRecDepth 100000
namespace Z
open PySem PySem.Spec PyProof.Rows L2

/-! ### arguments -/
section
variable {X : Cx} {Ω : Type} {env : Env} {nm : Str} {pos : Pos} {a b e : Expr} {xs : List Expr} {P P1 P2 A : Type} {τ τ1 τ2 α β : Type} {S : Stor τ} {S1 : Stor τ1} {S2 : Stor τ2} {E : Enc τ} {E1 : Enc τ1} {E2 : Enc τ2}
  {G : Env → Prop} {G1 : Env → Prop} {G2 : P1 → Env → Prop} {e' : P → Env} {e1 : P1 → Env} {e2 : P1 → P2 → Env} {fa : (τ1 → P1 → Option Ω) → Option Ω} {fb : P1 → (τ2 → P2 → Option Ω) → Option Ω} {f : (τ → P → Option Ω) → Option Ω}

theorem la_nil : LA X env [] (fun _ : Unit => []) (fun _ : Unit => env) (fun (k : Unit → Unit → Option Ω) => k () ()) :=
  fun C F H σs es σ k ω Q hK hl h hk q => tAs.of X pa_nil (q () () [] F H hk rfl h)
theorem la_cons {sl : A → Env} {fr : P1 → (A → P2 → Option Ω) → Option Ω} (h1 : LX X env e S1 e1 fa) (h2 : ∀ p1, LA X (e1 p1) xs sl (e2 p1) (fr p1)) (hs : starEach (e :: xs) X.env = (false, eval e X.env) :: starEach xs X.env := by rfl) :
    LA X env (e :: xs) (fun p : τ1 × A => .st none τ1 S1 p.1 :: sl p.2) (fun p : P1 × P2 => e2 p.1 p.2) (fun k => fa fun x p1 => fr p1 fun r p2 => k (x, r) (p1, p2)) :=
  fun C F H σs es σ k ω Q hK hl h hk q => tAs.of X (pa_cons (peC X) (paC X) hs) (h1 C F H σs es σ _ ω _ hK hl h hk fun x p1 v F' H' hk' h' =>
    h2 p1 C F' H' (some v :: σs) (.st none τ1 S1 x :: es) σ _ ω _ hK (by simp [hl]) h' hk' fun r p2 vs F2 H2 hk2 hlv h3 => by
      refine q (x, r) (p1, p2) (v :: vs) F2 H2 hk2 (by simpa using hlv) ?_
      exact ER.rot (σt := vs.map some) (et := sl r) h3 hlv)
/-- a name by its value alone: lent to a call -/
theorem la_lend {sl : A → Env} {fr : (A → P → Option Ω) → Option Ω} (i : Nat) {w : Option V} {x : τ} (he : env[i]? = some (.st w τ S x)) (hN : X.N[i]? = some nm) (hv : Vis X.env.scope nm) (h2 : LA X env xs sl e' fr) (hd : (nm == ("__debug__" : Str)) = false := by decide) (hcd : (nm == ("__classdict__" : Str)) = false := by decide)
    (hs : starEach (Expr.Name nm pos :: xs) X.env = (false, eval (Expr.Name nm pos) X.env) :: starEach xs X.env := by rfl) :
    ∀ (C : Ck) (F H : Hp) (σs : List (Option V)) (es : Env) (σ : List (Option V)) (k : A → P → Option Ω) (ω : Ω) (Q : List V → Hp → Prop), C.K = X.K → σs.length = es.length → ER C F H (σs ++ σ) (es ++ env) → fr k = some ω →
    (∀ a p (v : V) (vs : List V) F' H', k a p = some ω → σ[i]? = some (some v) → (vs.map some).length = (sl a).length → ER C F' H' (vs.map some ++ (σs ++ σ)) (sl a ++ (es ++ e' p)) → Q (v :: vs) H') → tAs X (Expr.Name nm pos :: xs) σ H Q :=
  fun C F H σs es σ k ω Q hK hl h hk q => tAs.of X (pa_cons (peC X) (paC X) hs) (tE.of X (pe_var hN hv hd hcd) (by
    obtain ⟨v, fp, e1, r⟩ := h.lookF hl he
    exact ⟨v, e1, h2 C F H σs es σ k ω _ hK hl h hk fun a p vs F' H' hk' hlv h' => q a p v vs F' H' hk' e1 hlv h'⟩))
/-- shared slots and the data in them -/
inductive ShL : Env → List PyData → Prop
  | nil : ShL [] []
  | cons {τ : Type} {E : Enc τ} {x : τ} {en : Env} {ds : List PyData} : ShL en ds → ShL (.st none τ (it E) x :: en) (E.enc x :: ds)
theorem ShL.rep {C : Ck} {F H : Hp} : ∀ {sl : Env} {ds : List PyData}, ShL sl ds → ∀ {vs : List V} {σ : List (Option V)} {env : Env}, (vs.map some).length = sl.length → ER C F H (vs.map some ++ σ) (sl ++ env) → RepAll C.K F vs ds
  | _, _, .nil, vs, σ, env, hl, h => by
    cases vs with
    | nil => exact .nil
    | cons v vs => simp at hl
  | _, _, .cons r, vs, σ, env, hl, h => by
    cases vs with
    | nil => simp at hl
    | cons v vs =>
      obtain ⟨v', fp, e1, q⟩ := h.look (i := 0) rfl
      simp at e1; subst e1
      exact .cons q.2 (r.rep (by simpa using hl) h.pop)
theorem RepAll.zero {K : Fg} {F : Hp} {τ : Type} {E : Enc τ} {H : Hp} : ∀ {vs : List V} {xs : List τ}, RepAll K F vs (xs.map E.enc) → RelAll ((it E).rel K F H) [] vs xs
  | [], [], _ => .nil
  | [], _ :: _, h => by cases h
  | _ :: _, [], h => by cases h
  | v :: vs, x :: xs, h => by
    cases h with
    | cons h1 h2 => exact RelAll.cons (fp := []) (fps := []) ⟨rfl, h1⟩ (RepAll.zero h2)
theorem RelAll.zero {K : Fg} {F : Hp} {τ : Type} {E : Enc τ} {H : Hp} : ∀ {fp : List Addr} {vs : List V} {xs : List τ}, RelAll ((it E).rel K F H) fp vs xs → fp = [] ∧ RepAll K F vs (xs.map E.enc)
  | _, _, _, .nil => ⟨rfl, .nil⟩
  | _, _, _, .cons h r => by
    obtain ⟨e, q⟩ := RelAll.zero r
    obtain ⟨e2, q2⟩ := h
    exact ⟨by rw [e, e2]; rfl, .cons q2 q⟩
/-- a tuple -/
theorem lx_tup {sl : A → Env} {fs : (A → P → Option Ω) → Option Ω} {j : Nat} (h : LA X env xs sl e' fs) (E : Enc τ) (g : A → τ) (ds : A → List PyData) (hd : ∀ a, ShL (sl a) (ds a)) (he : ∀ a, E.enc (g a) = .tuple (ds a)) (hz : xs.length ≤ 1000 := by decide) (hz2 : ∀ a, (sl a).length = xs.length := by intro _; rfl) :
    LX X env (.Tuple xs j pos) (it E) e' (fun k => fs fun a p => k (g a) p) :=
  fun C F H σs es σ k ω Q hK hl hr hk q => tE.of X (pe_tup (paC X)) (h C F H σs es σ _ ω _ hK hl hr hk fun a p vs F' H' hk' hlv h' => by
    refine ⟨?_, fun t nt => ?_⟩
    · have := hz2 a; simp at hlv; exact Nat.le_of_lt (small1000 (by omega))
    · have r := (hd a).rep hlv h'
      refine q (g a) p (.ref t) (upd F' t (.tup vs)) _ hk' (((h'.popN hlv).newF nt).pushSh ?_)
      rw [he]
      exact .tup (SqT.of upd_same) (r.mono (same_new ((h'.popN hlv).fnone nt))))
/-- a list of shared things: a new one, of one's own -/
theorem lx_list {sl : A → Env} {fs : (A → P → Option Ω) → Option Ω} (h : LA X env xs sl e' fs) (E : Enc τ) (g : A → List τ) (hd : ∀ a, ShL (sl a) ((g a).map E.enc)) (hz : xs.length ≤ 1000 := by decide) (hz2 : ∀ a, (sl a).length = xs.length := by intro _; rfl) :
    LX X env (.List xs pos) (ls (it E)) e' (fun k => fs fun a p => k (g a) p) :=
  fun C F H σs es σ k ω Q hK hl hr hk q => tE.of X (pe_lst (paC X)) (h C F H σs es σ _ ω _ hK hl hr hk fun a p vs F' H' hk' hlv h' => by
    refine ⟨?_, fun t nt => ?_⟩
    · have := hz2 a; simp at hlv; exact Nat.le_of_lt (small1000 (by omega))
    · have r := (hd a).rep hlv h'
      exact q (g a) p (.ref t) F' _ hk' ((h'.popN hlv).newOw nt ⟨t, vs, [], rfl, upd_same, r.zero, rfl⟩))

/-! ### sequences that are read -/
/-- a list that is tracked -/
structure LVm (S : Stor τ) (S1 : Stor α) (g : τ → List α) : Prop where
  view : ∀ {K : Fg} {F H : Hp} {fp : List Addr} {v : V} {x : τ}, Same F H → S.rel K F H fp v x → ∃ p vs fps, v = .ref p ∧ H p = some (.lst vs) ∧ RelAll (S1.rel K F H) fps vs (g x)
/-- a list -/
structure LVw (S : Stor τ) (S1 : Stor α) (g : τ → List α) : Prop where
  view : ∀ {K : Fg} {F H : Hp} {fp : List Addr} {v : V} {x : τ}, Same F H → S.rel K F H fp v x → ∃ p vs fps, v = .ref p ∧ SqL K H p vs ∧ RelAll (S1.rel K F H) fps vs (g x)
structure TVw (S : Stor τ) (S1 : Stor α) (g : τ → List α) : Prop where
  view : ∀ {K : Fg} {F H : Hp} {fp : List Addr} {v : V} {x : τ}, Same F H → S.rel K F H fp v x → ∃ p vs fps, v = .ref p ∧ SqT K H p vs ∧ RelAll (S1.rel K F H) fps vs (g x)
theorem LVm.w {S1 : Stor α} {g : τ → List α} (h : LVm S S1 g) : LVw S S1 g := ⟨fun s r => let ⟨p, vs, fps, e, h1, h2⟩ := h.view s r; ⟨p, vs, fps, e, SqL.of h1, h2⟩⟩
theorem lm_sh : LVm (it (eL E)) (it E) id := ⟨fun {K F H fp v x} s r => by
  obtain ⟨_, r⟩ := r
  generalize hd : (eL E).enc x = d at r
  cases r with
  | lst h1 h2 =>
    simp only [eL] at hd
    injection hd with hd
    subst hd
    exact ⟨_, _, _, rfl, s _ _ h1, h2.zero⟩
  | _ => simp [eL] at hd⟩
theorem lm_ow {S1 : Stor α} : LVm (ls S1) S1 id := ⟨fun {K F H fp v x} s r => by
  obtain ⟨p, vs, fps, rfl, h, q, rfl⟩ := r
  exact ⟨p, vs, fps, rfl, h, q⟩⟩
theorem tv_sh : TVw (it (eV E)) (it E) id := ⟨fun {K F H fp v x} s r => by
  obtain ⟨_, r⟩ := r
  generalize hd : (eV E).enc x = d at r
  cases r with
  | tup h1 h2 =>
    simp only [eV] at hd
    injection hd with hd
    subst hd
    exact ⟨_, _, _, rfl, same_sqT s h1, h2.zero⟩
  | _ => simp [eV] at hd⟩
theorem atI_map {α β : Type} (f : α → β) (xs : List α) (i : Int) : atI (xs.map f) i = (atI xs i).map f := by
  unfold atI
  rw [List.length_map]
  cases ixN xs.length i with
  | none => rfl
  | some j => simp
theorem RepAll.at {K : Fg} {F : Hp} {vs : List V} {xs : List τ} {i : Int} {y : τ} (h : RepAll K F vs (xs.map E.enc)) (e : atI xs i = some y) : ∃ v, atI vs i = some v ∧ Rep K F v (E.enc y) := by
  have hl : vs.length = xs.length := by have := h.length; simpa using this
  unfold atI at e ⊢
  rw [hl]
  cases hj : ixN xs.length i with
  | none => rw [hj] at e; cases e
  | some j =>
    rw [hj] at e
    have e' : xs[j]? = some y := e
    obtain ⟨v, h1, h2⟩ := h.get (i := j) (d := E.enc y) (by rw [List.getElem?_map, e']; rfl)
    exact ⟨v, h1, h2⟩
/-- xs[i] of a list -/
theorem lx_ix {g : τ1 → List α} {E1 : Enc α} {fb : P1 → (Int → P2 → Option Ω) → Option Ω} (hv : LVw S1 (it E1) g) (ha : LO X G env a S1 e1 fa) (hb : ∀ p1, LX X (e1 p1) b (it eI) (e2 p1) (fb p1)) (hg : ∀ p1 p2, G (e2 p1 p2)) (hp : PlainIx b := by exact fun _ _ => rfl) :
    LX X env (.Subscript a b pos) (it E1) (fun p : P1 × P2 => e2 p.1 p.2) (fun k => fa fun x p1 => fb p1 fun i p2 => (atI (g x) i).bind fun y => k y (p1, p2)) :=
  fun C F H σs es σ k ω Q hK hl h hk q => tE.of X (pe_ix ix_list (peC X) (peC X) hp) (op2_run ha (fun p1 => lo_of (hb p1)) hg (fun _ _ => trivial) hK hl h hk
    fun x p1 i p2 v u F' H' fp fq hk' h' r1 r2 => by
      obtain ⟨y, hy, hk'⟩ := bind_some hk'
      obtain ⟨_, r2⟩ := r2
      cases r2
      obtain ⟨p, vs, fps, rfl, hs, ra⟩ := hv.view h'.sF r1
      obtain ⟨w, hw, rw'⟩ := ra.zero.2.at hy
      exact ⟨p, vs, i, w, rfl, rfl, by rw [← hK]; exact hs, hw, q y (p1, p2) w F' H' hk' (h'.pushSh rw')⟩)
/-- .. of a tuple of one kind -/
theorem lx_ixV {g : τ1 → List α} {E1 : Enc α} {fb : P1 → (Int → P2 → Option Ω) → Option Ω} (hv : TVw S1 (it E1) g) (ha : LO X G env a S1 e1 fa) (hb : ∀ p1, LX X (e1 p1) b (it eI) (e2 p1) (fb p1)) (hg : ∀ p1 p2, G (e2 p1 p2)) (hp : PlainIx b := by exact fun _ _ => rfl) :
    LX X env (.Subscript a b pos) (it E1) (fun p : P1 × P2 => e2 p.1 p.2) (fun k => fa fun x p1 => fb p1 fun i p2 => (atI (g x) i).bind fun y => k y (p1, p2)) :=
  fun C F H σs es σ k ω Q hK hl h hk q => tE.of X (pe_ix ix_tup (peC X) (peC X) hp) (op2_run ha (fun p1 => lo_of (hb p1)) hg (fun _ _ => trivial) hK hl h hk
    fun x p1 i p2 v u F' H' fp fq hk' h' r1 r2 => by
      obtain ⟨y, hy, hk'⟩ := bind_some hk'
      obtain ⟨_, r2⟩ := r2
      cases r2
      obtain ⟨p, vs, fps, rfl, hs, ra⟩ := hv.view h'.sF r1
      obtain ⟨w, hw, rw'⟩ := ra.zero.2.at hy
      exact ⟨p, vs, i, w, rfl, rfl, by rw [← hK]; exact hs, hw, q y (p1, p2) w F' H' hk' (h'.pushSh rw')⟩)
/-- the n-th part of a tuple that has parts of its own kinds -/
structure Part (E : Enc τ) (n : Int) (E1 : Enc α) (g : τ → α) : Prop where
  is : ∀ x, ∃ ds, E.enc x = .tuple ds ∧ atI ds n = some (E1.enc (g x))
theorem Rep.tup_inv {K : Fg} {F : Hp} {v : V} {ds : List PyData} (h : Rep K F v (.tuple ds)) : ∃ p vs, v = .ref p ∧ SqT K F p vs ∧ RepAll K F vs ds := by
  cases h with
  | tup h1 h2 => exact ⟨_, _, rfl, h1, h2⟩
theorem Rep.lst_inv {K : Fg} {F : Hp} {v : V} {ds : List PyData} (h : Rep K F v (.list ds)) : ∃ p vs, v = .ref p ∧ F p = some (.lst vs) ∧ RepAll K F vs ds := by
  cases h with
  | lst h1 h2 => exact ⟨_, _, rfl, h1, h2⟩
theorem RepAll.atD {K : Fg} {F : Hp} {vs : List V} {ds : List PyData} {i : Int} {y : PyData} (h : RepAll K F vs ds) (e : atI ds i = some y) : ∃ v, atI vs i = some v ∧ Rep K F v y := by
  have hl : vs.length = ds.length := h.length
  unfold atI at e ⊢
  rw [hl]
  cases hj : ixN ds.length i with
  | none => rw [hj] at e; cases e
  | some j =>
    rw [hj] at e
    exact h.get e
theorem lx_part {n : Int} {g : τ1 → α} {E' : Enc α} {j : Nat} {cp : Pos} (hp : Part E1 n E' g) (ha : LX X env a (it E1) e1 fa) :
    LX X env (.Subscript a (.Constant (.int n) j cp) pos) (it E') e1 (fun k => fa fun x p1 => k (g x) p1) :=
  fun C F H σs es σ k ω Q hK hl h hk q => tE.of X (pe_ix ix_tup (peC X) pe_int fun _ _ => rfl) (lo_run (lo_of ha) (fun _ => trivial) hK hl h hk
    fun x p1 v F' H' fp hk' h' r1 => by
      obtain ⟨_, r1⟩ := r1
      obtain ⟨ds, e1, e2⟩ := hp.is x
      rw [e1] at r1
      obtain ⟨p, vs, rfl, h1, h2⟩ := r1.tup_inv
      obtain ⟨w, hw, rw'⟩ := h2.atD e2
      exact ⟨p, vs, n, w, rfl, rfl, by rw [← hK]; exact same_sqT h'.sF h1, hw, q (g x) p1 w F' H' hk' (h'.pushSh rw')⟩)
/-- .. n below 0: -1 -/
theorem lx_partN {n : Int} {g : τ1 → α} {E' : Enc α} {j : Nat} {cp up : Pos} (hp : Part E1 (-n) E' g) (ha : LX X env a (it E1) e1 fa) :
    LX X env (.Subscript a (.UnaryOp .USub (.Constant (.int n) j cp) up) pos) (it E') e1 (fun k => fa fun x p1 => k (g x) p1) :=
  fun C F H σs es σ k ω Q hK hl h hk q => tE.of X (pe_ix ix_tup (peC X) (pe_un un_neg pe_int) fun _ _ => rfl) (lo_run (lo_of ha) (fun _ => trivial) hK hl h hk
    fun x p1 v F' H' fp hk' h' r1 => by
      obtain ⟨_, r1⟩ := r1
      obtain ⟨ds, e1, e2⟩ := hp.is x
      rw [e1] at r1
      obtain ⟨p, vs, rfl, h1, h2⟩ := r1.tup_inv
      obtain ⟨w, hw, rw'⟩ := h2.atD e2
      exact ⟨n, rfl, p, vs, -n, w, rfl, rfl, by rw [← hK]; exact same_sqT h'.sF h1, hw, q (g x) p1 w F' H' hk' (h'.pushSh rw')⟩)
theorem part2_0 {A : Enc α} {B : Enc β} : Part (eT2 A B) 0 A (·.1) := ⟨fun _ => ⟨_, rfl, rfl⟩⟩
theorem part2_1 {A : Enc α} {B : Enc β} : Part (eT2 A B) 1 B (·.2) := ⟨fun _ => ⟨_, rfl, rfl⟩⟩
theorem part3_0 {γ : Type} {A : Enc α} {B : Enc β} {D : Enc γ} : Part (eT3 A B D) 0 A (·.1) := ⟨fun _ => ⟨_, rfl, rfl⟩⟩
theorem part3_1 {γ : Type} {A : Enc α} {B : Enc β} {D : Enc γ} : Part (eT3 A B D) 1 B (·.2.1) := ⟨fun _ => ⟨_, rfl, rfl⟩⟩
theorem part3_2 {γ : Type} {A : Enc α} {B : Enc β} {D : Enc γ} : Part (eT3 A B D) 2 D (·.2.2) := ⟨fun _ => ⟨_, rfl, rfl⟩⟩
theorem part4_0 {γ δ : Type} {A : Enc α} {B : Enc β} {D : Enc γ} {D' : Enc δ} : Part (eT4 A B D D') 0 A (·.1) := ⟨fun _ => ⟨_, rfl, rfl⟩⟩
theorem part4_1 {γ δ : Type} {A : Enc α} {B : Enc β} {D : Enc γ} {D' : Enc δ} : Part (eT4 A B D D') 1 B (·.2.1) := ⟨fun _ => ⟨_, rfl, rfl⟩⟩
theorem part4_2 {γ δ : Type} {A : Enc α} {B : Enc β} {D : Enc γ} {D' : Enc δ} : Part (eT4 A B D D') 2 D (·.2.2.1) := ⟨fun _ => ⟨_, rfl, rfl⟩⟩
theorem part4_3 {γ δ : Type} {A : Enc α} {B : Enc β} {D : Enc γ} {D' : Enc δ} : Part (eT4 A B D D') 3 D' (·.2.2.2) := ⟨fun _ => ⟨_, rfl, rfl⟩⟩
end
end Z

set_option Elab.async false
set_option linter.all false
set_option maxRecDepth 100000
namespace Z
open PySem PySem.Spec PyProof.Rows L2

/-! ### targets -/
def Eqo (ix : List Nat) (σ σ' : List (Option V)) : Prop := σ'.length = σ.length ∧ ∀ j, j ∉ ix → σ'[j]? = σ[j]?
theorem Eqo.refl (ix : List Nat) (σ : List (Option V)) : Eqo ix σ σ := ⟨rfl, fun _ _ => rfl⟩
theorem Eqo.trans {ix : List Nat} {a b c : List (Option V)} (h : Eqo ix a b) (g : Eqo ix b c) : Eqo ix a c := ⟨g.1.trans h.1, fun j m => (g.2 j m).trans (h.2 j m)⟩
theorem Eqo.mono {ix iy : List Nat} {a b : List (Option V)} (h : Eqo ix a b) (s : ∀ j ∈ ix, j ∈ iy) : Eqo iy a b := ⟨h.1, fun j m => h.2 j fun z => m (s j z)⟩
theorem Eqo.set {σ : List (Option V)} {i : Nat} {o : Option V} : Eqo [i] σ (σ.set i o) := ⟨by simp, fun j m => List.getElem?_set_ne (by simp at m; omega)⟩
theorem wipe_get (σ : List (Option V)) : ∀ (vs : List Nat) (j : Nat), (wipe σ vs)[j]? = if j ∈ vs then (if j < σ.length then some none else none) else σ[j]?
  | [], j => by simp [wipe]
  | v :: vs, j => by
    unfold wipe
    by_cases e : v = j
    · subst e
      by_cases hl : v < σ.length
      · rw [List.getElem?_set_self (by rw [wipe_length]; exact hl)]; simp [hl]
      · rw [List.getElem?_eq_none (by rw [List.length_set, wipe_length]; omega)]; simp [hl]
    · rw [List.getElem?_set_ne e, wipe_get σ vs j]
      have : (j ∈ v :: vs) = (j ∈ vs) := by simp; intro z; exact absurd z.symm e
      simp only [this]
theorem Eqo.wipe {ix : List Nat} {a b : List (Option V)} (h : Eqo ix a b) : wipe b ix = wipe a ix := by
  apply List.ext_getElem?
  intro j
  rw [wipe_get, wipe_get, h.1]
  by_cases m : j ∈ ix
  · rw [if_pos m, if_pos m]
  · rw [if_neg m, if_neg m]; exact h.2 j m
section
variable (X : Cx)
def tG (tg : Expr) : TG := fun v σ H Q => ∀ pins s u, Inv X pins σ H s → RelV v u → wpAny (model X.prog X.w) X.A (assign tg X.env u) (fun _ s' => ∃ σ' H', Inv X pins σ' H' s' ∧ Q σ' H') X.xe s
def tGs (ts : List Expr) : TGs := fun vs σ H Q => ∀ pins s us, Inv X pins σ H s → Vals vs us → wpAny (model X.prog X.w) X.A (assignInOrder ((assignEach ts X.env).map (·.2)) us) (fun _ s' => ∃ σ' H', Inv X pins σ' H' s' ∧ Q σ' H') X.xe s
theorem pgC {tg : Expr} : PG X tg (tG X tg) := ⟨fun pins s σ H v u Q I r h => h pins s u I r⟩
theorem pgsC {ts : List Expr} : PGs X ts (tGs X ts) := ⟨fun pins s σ H vs us Q I r h => h pins s us I r⟩
theorem tG.of {tg : Expr} {t : TG} {v : V} {σ : L2.St} {H : Hp} {Q : L2.St → Hp → Prop} (h : PG X tg t) (q : t v σ H Q) : tG X tg v σ H Q := fun pins s u I r => h.run pins s σ H v u Q I r q
theorem tGs.of {ts : List Expr} {t : TGs} {vs : List V} {σ : L2.St} {H : Hp} {Q : L2.St → Hp → Prop} (h : PGs X ts t) (q : t vs σ H Q) : tGs X ts vs σ H Q := fun pins s us I r => h.run pins s σ H vs us Q I r q
/-- a target: where its value goes -/
def LG (ix : List Nat) (env : Env) (tg : Expr) {τ : Type} (S : Stor τ) (envT : τ → Env) : Prop :=
  ∀ (C : Ck) (F H : Hp) (σs : List (Option V)) (es : Env) (σ : List (Option V)) (v : V) (a : τ) (Q : L2.St → Hp → Prop), C.K = X.K → σs.length = es.length → ER C F H (some v :: (σs ++ σ)) (.st none τ S a :: (es ++ env)) →
    (∀ σ', Eqo ix σ σ' → ER C F H (σs ++ σ') (es ++ envT a) → Q σ' H) → tG X tg v σ H Q
/-- targets for the parts of a tuple -/
def LGs (ix : List Nat) (env : Env) (tgs : List Expr) {A : Type} (sl : A → Env) (envT : A → Env) : Prop :=
  ∀ (C : Ck) (F H : Hp) (σs : List (Option V)) (es : Env) (σ : List (Option V)) (vs : List V) (a : A) (Q : L2.St → Hp → Prop), C.K = X.K → σs.length = es.length → (vs.map some).length = (sl a).length → ER C F H (vs.map some ++ (σs ++ σ)) (sl a ++ (es ++ env)) →
    (∀ σ', Eqo ix σ σ' → ER C F H (σs ++ σ') (es ++ envT a) → Q σ' H) → tGs X tgs vs σ H Q
end
section
variable {X : Cx} {Ω : Type} {env : Env} {nm : Str} {pos : Pos} {a b e tg : Expr} {xs tgs : List Expr} {P P1 P2 A : Type} {τ τ1 τ2 α β : Type} {S : Stor τ} {S1 : Stor τ1} {S2 : Stor τ2} {E : Enc τ} {E1 : Enc τ1} {E2 : Enc τ2} {ix : List Nat}
theorem lg_name (i : Nat) (hN : X.N.Nodup) (hi : X.N[i]? = some nm := by rfl) (hx : Loc X.env.scope nm := by first | exact Or.inl rfl | exact Or.inr rfl) (hl : i < env.length := by exact (Nat.lt_of_sub_eq_succ rfl)) (hf : X.fn nm = true ∨ X.env.scope.names.lookup nm = some .local := by first | exact .inl rfl | exact .inr rfl) : LG X [i] env (.Name nm pos) S (fun a => env.set i (.st none τ S a)) :=
  fun C F H σs es σ v a Q hK hls h q => tG.of X (pg_name hN hi hx hf) (q _ Eqo.set (h.asg hls hl))
theorem lgs_nil : LGs X [] env [] (fun _ : Unit => []) (fun _ : Unit => env) := fun C F H σs es σ vs a Q hK hl hv h q => tGs.of X pgs_nil (by
  cases vs with
  | nil => exact ⟨rfl, q σ (Eqo.refl _ _) h⟩
  | cons v vs => simp at hv)
theorem lgs_cons {i1 i2 : List Nat} {env1 : τ → Env} {sl : A → Env} {env2 : τ → A → Env} (h1 : LG X i1 env tg S env1) (h2 : ∀ x, LGs X i2 (env1 x) tgs sl (env2 x))
    (hs : (assignEach (tg :: tgs) X.env).map (·.2) = assign tg X.env :: (assignEach tgs X.env).map (·.2) := by rfl) : LGs X (i1 ++ i2) env (tg :: tgs) (fun p : τ × A => .st none τ S p.1 :: sl p.2) (fun p : τ × A => env2 p.1 p.2) :=
  fun C F H σs es σ vs a Q hK hl hv h q => tGs.of X (pgs_cons (pgC X) (pgsC X) hs) (by
    cases vs with
    | nil => simp at hv
    | cons v vs =>
      have hv' : (vs.map some).length = (sl a.2).length := by simpa using hv
      refine ⟨v, vs, rfl, h1 C F H (vs.map some ++ σs) (sl a.2 ++ es) σ v a.1 _ hK (by simp [hl]; simpa using hv') (by simpa [List.append_assoc] using h) fun σ' e1 h' => ?_⟩
      exact h2 a.1 C F H σs es σ' vs a.2 Q hK hl hv' (by simpa [List.append_assoc] using h') fun σ2 e2 h3 => q σ2 ((e1.mono fun j m => List.mem_append_left _ m).trans (e2.mono fun j m => List.mem_append_right _ m)) h3)
/-- data that stand on the stack as shared slots -/
theorem ER.pushAll {C : Ck} {F H : Hp} : ∀ {sl : Env} {ds : List PyData}, ShL sl ds → ∀ {vs : List V} {σ : List (Option V)} {env : Env}, RepAll C.K F vs ds → ER C F H σ env → (vs.map some).length = sl.length ∧ ER C F H (vs.map some ++ σ) (sl ++ env)
  | _, _, .nil, _, σ, env, r, h => by cases r; exact ⟨rfl, h⟩
  | _, _, .cons q, _, σ, env, r, h => by
    cases r with
    | cons r1 r2 =>
      obtain ⟨e, h'⟩ := ER.pushAll q r2 h
      exact ⟨by simpa using e, h'.pushSh r1⟩
theorem lg_tup {sl : A → Env} {envT : A → Env} {j n : Nat} (h : LGs X ix env tgs sl envT) (g : τ → A) (ds : A → List PyData) (hd : ∀ a, ShL (sl a) (ds a)) (he : ∀ x, E.enc x = .tuple (ds (g x))) (hc : X.calm = true)
    (hz : ∀ a, (sl a).length = n) (hn : (assignEach tgs X.env).length = n := by rfl) (hst : (assignEach tgs X.env).findIdx? (·.1) = none := by rfl) : LG X ix env (.Tuple tgs j pos) (it E) (fun x => envT (g x)) :=
  fun C F H σs es σ v a Q hK hl hr q => tG.of X (pg_tup hc (pgsC X) hn hst) (by
    obtain ⟨v', fp, e1, r⟩ := hr.look (i := 0) rfl
    simp at e1; subst e1
    obtain ⟨_, r⟩ := r
    rw [he] at r
    obtain ⟨p, vs, rfl, h1, h2⟩ := r.tup_inv
    obtain ⟨hlv, h'⟩ := ER.pushAll (hd (g a)) h2 hr.pop
    have hl2 : vs.length = n := by have := hz (g a); simp at hlv; omega
    exact ⟨p, vs, rfl, by rw [← hK]; exact same_sqT hr.sF h1, hl2, h C F H σs es σ vs (g a) Q hK hl hlv h' q⟩)
end

/-! ### what is walked -/
section
variable (X : Cx) {Ω : Type}
def tI (tg iter : Expr) : TI := fun σ H R => ∀ pins s, Inv X pins σ H s → wpAny (model X.prog X.w) X.A (eval iter X.env) (fun v s1 => wpAny (model X.prog X.w) X.A (pyIter v) (PIE X pins σ tg R) X.xe s1) X.xe s
theorem piC {tg iter : Expr} : PI X tg iter (tI X tg iter) := ⟨fun pins s σ H R I h => h pins s I⟩
theorem tI.of {tg iter : Expr} {t : TI} {σ : L2.St} {H : Hp} {R : It → Hp → Prop} (h : PI X tg iter t) (q : t σ H R) : tI X tg iter σ H R := fun pins s I => h.run pins s σ H R I q
/-- J yields xs, as long as the stack's top stands; each item may make new things -/
structure Yields (C : Ck) {α : Type} (S : Stor α) (J : It) (xs : List α) (σx : List (Option V)) (ex : Env) : Prop where
  len : σx.length = ex.length
  go : ∀ (i : Nat) (F H : Hp) (σ2 σb : List (Option V)) (e2 eb : Env), σ2.length = e2.length → ER C F H (σ2 ++ (σx ++ σb)) (e2 ++ (ex ++ eb)) →
    (∀ x, xs[i]? = some x → J.go i H ∧ ∀ v H', J.yld i H v H' → ∃ F', ER C F' H' (some v :: (σ2 ++ (σx ++ σb))) (.st none α S x :: (e2 ++ (ex ++ eb)))) ∧ (xs[i]? = none → J.stop i H)
def LI (env : Env) (tg iter : Expr) {α : Type} (S : Stor α) {P : Type} (env' : P → Env) (f : (List α → P → Option Ω) → Option Ω) : Prop :=
  ∀ (C : Ck) (F H : Hp) (σs : List (Option V)) (es : Env) (σ : List (Option V)) (k : List α → P → Option Ω) (ω : Ω) (R : It → Hp → Prop), C.K = X.K → σs.length = es.length → ER C F H (σs ++ σ) (es ++ env) → f k = some ω →
    (∀ xs p J F' H' (σx : List (Option V)) (ex : Env), k xs p = some ω → ER C F' H' (σx ++ (σs ++ σ)) (ex ++ (es ++ env' p)) → Yields C S J xs σx ex → R J H') → tI X tg iter σ H R
end
section
variable {X : Cx} {Ω : Type} {env : Env} {nm : Str} {pos : Pos} {a b e tg : Expr} {xs tgs : List Expr} {P P1 P2 A : Type} {τ τ1 τ2 α β : Type} {S : Stor τ} {S1 : Stor τ1} {S2 : Stor τ2} {E : Enc τ} {E1 : Enc τ1} {E2 : Enc τ2} {ix : List Nat} {e' : P → Env} {e1 : P1 → Env} {e2 : P1 → P2 → Env}
theorem li_list {g : τ → List α} {Ea : Enc α} {f : (τ → P → Option Ω) → Option Ω} (hv : LVw S (it Ea) g) (h : LX X env e S e' f) : LI X env tg e (it Ea) e' (fun k => f fun x p => k (g x) p) :=
  fun C F H σs es σ k ω R hK hl hr hk q => tI.of X (pi_list (peC X)) (h C F H σs es σ _ ω _ hK hl hr hk fun x p v F' H' hk' h' => by
    obtain ⟨v', fp, e1, r⟩ := h'.look (i := 0) rfl
    simp at e1; subst e1
    obtain ⟨p0, vs, fps, rfl, hs, ra⟩ := hv.view h'.sF r
    refine ⟨p0, rfl, ⟨vs, by rw [← hK]; exact hs⟩, q (g x) p (Itl X.K p0) F' H' [some (.ref p0)] [.st none τ S x] hk' h' ⟨rfl, fun i F2 H2 σ2 σb e2 eb hl2 h2 => ?_⟩⟩
    obtain ⟨v', fp', e1, r'⟩ := h2.look (i := e2.length + 0) (by rw [at_app _ rfl]; rfl)
    rw [at_app _ hl2] at e1
    simp at e1; subst e1
    obtain ⟨p1, ws, fps', e3, hs', ra'⟩ := hv.view h2.sF r'
    cases e3
    rw [hK] at hs'
    have rp := ra'.zero.2
    refine ⟨fun y hy => ?_, fun hn => ?_⟩
    · obtain ⟨w, hw, rw'⟩ := rp.get (i := i) (d := Ea.enc y) (by rw [List.getElem?_map, hy]; rfl)
      refine ⟨⟨ws, w, hs', hw⟩, fun v H' hy' => ⟨F2, ?_⟩⟩
      obtain ⟨e4, hy'⟩ := hy'
      have := hy' ws hs'
      rw [hw] at this; cases this
      rw [e4]
      exact h2.pushSh rw'
    · refine ⟨ws, hs', ?_⟩
      have := rp.length
      simp at this
      have := List.getElem?_eq_none_iff.mp hn
      omega)
/-- the ints of a range -/
def rangeL (lo hi : Int) : List Int := (List.range (hi - lo).toNat).map fun i => lo + (i : Nat)
def rgOk (lo hi : Int) : Bool := decide (-(2 ^ 62) ≤ lo ∧ lo < 2 ^ 62 ∧ -(2 ^ 62) ≤ hi ∧ hi < 2 ^ 62)
theorem yields_range {C : Ck} {lo : Int} {hi : Int} : Yields C (it eI) (Itr lo (hi - lo).toNat) (rangeL lo hi) [] [] := ⟨rfl, fun i F H σ2 σb e2 eb hl2 h2 => by
  refine ⟨fun y hy => ?_, fun hn => ?_⟩
  · unfold rangeL at hy
    rw [List.getElem?_map] at hy
    by_cases hi : i < (hi - lo).toNat
    · rw [List.getElem?_range hi] at hy
      simp at hy; subst hy
      refine ⟨hi, fun v H' hy' => ⟨F, ?_⟩⟩
      obtain ⟨e1, e2⟩ := hy'
      rw [e1, e2]
      exact h2.pushSh (.int _)
    · rw [List.getElem?_eq_none (by simpa using hi)] at hy; cases hy
  · unfold rangeL at hn
    rw [List.getElem?_eq_none_iff] at hn
    simp at hn
    show (hi - lo).toNat ≤ i
    omega⟩
theorem li_range2 {f1 : (Int → P1 → Option Ω) → Option Ω} {f2 : P1 → (Int → P2 → Option Ω) → Option Ω} {p : Pos} (hg : Gl X "range") (hm : X.mg "range" = none) (h1 : LX X env a (it eI) e1 f1) (h2 : ∀ p1, LX X (e1 p1) b (it eI) (e2 p1) (f2 p1))
    (hs : starEach [a, b] X.env = [(false, eval a X.env), (false, eval b X.env)] := by rfl) (hs2 : starEach [b] X.env = [(false, eval b X.env)] := by rfl) (hs3 : starEach [a, b] X.env = (false, eval a X.env) :: starEach [b] X.env := by rfl) (hs4 : starEach [b] X.env = (false, eval b X.env) :: starEach [] X.env := by rfl) :
    LI X env tg (.Call (.Name "range" p) [a, b] [] pos) (it eI) (fun q : P1 × P2 => e2 q.1 q.2) (fun k => f1 fun x p1 => f2 p1 fun y p2 => ck (rgOk x y) (k (rangeL x y) (p1, p2))) :=
  fun C F H σs es σ k ω R hK hl hr hk q => tI.of X (pi_range2 hg hm (pa_cons (peC X) (pa_cons (peC X) pa_nil hs4) hs3) hs hs2) (op2_run (lo_of h1) (fun p1 => lo_of (h2 p1)) (fun _ _ => trivial) (fun _ _ => trivial) hK hl hr hk
    fun x p1 y p2 v u F' H' fp fq hk' h' r1 r2 => by
      obtain ⟨hc, hk'⟩ := ck_some hk'
      obtain ⟨_, r1⟩ := r1
      obtain ⟨_, r2⟩ := r2
      cases r1; cases r2
      exact ⟨x, y, rfl, of_decide_eq_true (p := -(2 ^ 62) ≤ x ∧ x < 2 ^ 62 ∧ -(2 ^ 62) ≤ y ∧ y < 2 ^ 62) hc, q (rangeL x y) (p1, p2) _ F' H' [] [] hk' h' yields_range⟩)
theorem li_range1 {f1 : (Int → P1 → Option Ω) → Option Ω} {p : Pos} (hg : Gl X "range") (hm : X.mg "range" = none) (h1 : LX X env a (it eI) e1 f1)
    (hs : starEach [a] X.env = [(false, eval a X.env)] := by rfl) (hs4 : starEach [a] X.env = (false, eval a X.env) :: starEach [] X.env := by rfl) :
    LI X env tg (.Call (.Name "range" p) [a] [] pos) (it eI) e1 (fun k => f1 fun y p1 => ck (rgOk 0 y) (k (rangeL 0 y) p1)) :=
  fun C F H σs es σ k ω R hK hl hr hk q => tI.of X (pi_range1 hg hm (pa_cons (peC X) pa_nil hs4) hs) (lo_run (lo_of h1) (fun _ => trivial) hK hl hr hk
    fun y p1 v F' H' fp hk' h' r1 => by
      obtain ⟨hc, hk'⟩ := ck_some hk'
      obtain ⟨_, r1⟩ := r1
      cases r1
      have hc' := of_decide_eq_true (p := -(2 ^ 62) ≤ (0 : Int) ∧ (0 : Int) < 2 ^ 62 ∧ -(2 ^ 62) ≤ y ∧ y < 2 ^ 62) hc
      have e0 : (y - 0).toNat = y.toNat := by omega
      refine ⟨y, rfl, hc'.2.2.1, hc'.2.2.2, ?_⟩
      rw [← e0]
      exact q (rangeL 0 y) p1 _ F' H' [] [] hk' h' yields_range)
end

/-! ### statements -/
/-- a loop over items: go on, or out -/
def forO {α S Ω : Type} : List α → S → (α → S → (S → Option Ω) → Option Ω) → (S → Option Ω) → Option Ω
  | [], s, _, k => k s
  | x :: xs, s, b, k => b x s fun s' => forO xs s' b k
/-- a loop with fuel -/
def whileO {S Ω : Type} : Nat → S → (S → (S → Option Ω) → Option Ω) → Option Ω
  | 0, _, _ => none
  | n + 1, s, b => b s fun s' => whileO n s' b
section
variable {X : Cx} {R I Ω : Type} {SR : Stor R} {envR : I → Env} {kr : R → I → Option Ω} {bk ct : Lp Ω} {env : Env} {nm : Str} {pos : Pos} {c e tg iter : Expr} {sts sa sb rest : List Stmt} {P A : Type} {τ α : Type} {S : Stor τ} {Sa : Stor α} {e' : P → Env} {ix : List Nat} {J J1 : Type} {envJ : J → Env} {env1 : J1 → Env}
theorem lb_end (j : J) (hs : Sub env (envJ j)) : LB X SR envR kr bk ct env [] envJ (fun kn => kn j) :=
  fun C F H σs es σ kn ω D hK hl h hk qn qb qc qr => tSs.of X pss_nil (qn j F H σ hk (h.subF hs))
theorem lb_sub {env0 : Env} {f : (J → Option Ω) → Option Ω} (hs : Sub env env0) (h : LB X SR envR kr bk ct env0 sts envJ f) : LB X SR envR kr bk ct env sts envJ f :=
  fun C F H σs es σ kn ω D hK hl hr hk qn qb qc qr => h C F H σs es σ kn ω D hK hl (hr.subF hs) hk qn qb qc qr
/-- a slot is shared from here on -/
theorem lb_frz {E : Enc τ} {x : τ} {f : (J → Option Ω) → Option Ω} (i : Nat) (fz : Frz S E) (he : env[i]? = some (.st none τ S x)) (h : LB X SR envR kr bk ct (env.set i (.st none τ (it E) x)) sts envJ f) : LB X SR envR kr bk ct env sts envJ f :=
  fun C F H σs es σ kn ω D hK hl hr hk qn qb qc qr => by
    obtain ⟨F', sF, h'⟩ := hr.freeze (i := es.length + i) fz (by rw [at_app _ rfl]; exact he)
    rw [List.set_append_right _ _ (Nat.le_add_right _ _), Nat.add_sub_cancel_left] at h'
    exact h C F' H σs es σ kn ω D hK hl h' hk qn qb qc qr
theorem lb_asg {f : (τ → P → Option Ω) → Option Ω} {fr : τ → P → (J → Option Ω) → Option Ω} {envT : P → τ → Env} (he : LX X env e S e' f) (hg : ∀ p, LG X ix (e' p) tg S (envT p)) (hr : ∀ x p, LB X SR envR kr bk ct (envT p x) rest envJ (fr x p))
    (hs : swapsWithSole [tg] e pos.line X.env = pure false := by rfl) (hw : swappedStores [tg] e X.env = pure none := by rfl) (h1 : (assignEach [tg] X.env).map (·.2) = [assign tg X.env] := by rfl) :
    LB X SR envR kr bk ct env (.Assign [tg] e pos :: rest) envJ (fun kn => f fun x p => fr x p kn) :=
  fun C F H σs es σ kn ω D hK hl h hk qn qb qc qr => tSs.of X (pss_cons (ps_asg (peC X) (pgC X) hs hw h1) (pssC X)) (he C F H σs es σ _ ω _ hK hl h hk fun x p v F' H' hk' h' =>
    hg p C F' H' σs es σ v x _ hK hl h' fun σ' _ h2 => hr x p C F' H' σs es σ' kn ω D hK hl h2 hk' qn qb qc qr)
theorem lb_set {f : (τ → P → Option Ω) → Option Ω} {fr : τ → P → (J → Option Ω) → Option Ω} {pos' : Pos} (i : Nat) (hN : X.N.Nodup) (he : LX X env e S e' f) (hr : ∀ x p, LB X SR envR kr bk ct ((e' p).set i (.st none τ S x)) rest envJ (fr x p))
    (hi : X.N[i]? = some nm := by rfl) (hx : Loc X.env.scope nm := by first | exact Or.inl rfl | exact Or.inr rfl) (hlt : ∀ p, i < (e' p).length := by exact (fun _ => Nat.lt_of_sub_eq_succ rfl)) (hf : X.fn nm = true ∨ X.env.scope.names.lookup nm = some .local := by first | exact .inl rfl | exact .inr rfl) (hs : swapsWith e (some (.Name nm pos')) pos.line X.env = pure false := by rfl) :
    LB X SR envR kr bk ct env (.Assign [.Name nm pos'] e pos :: rest) envJ (fun kn => f fun x p => fr x p kn) :=
  fun C F H σs es σ kn ω D hK hl h hk qn qb qc qr => tSs.of X (pss_cons (ps_set hN hi hx (peC X) hs hf) (pssC X)) (he C F H σs es σ _ ω _ hK hl h hk fun x p v F' H' hk' h' =>
    hr x p C F' H' σs es (σ.set i (some v)) kn ω D hK hl (h'.asg hl (hlt p)) hk' qn qb qc qr)
theorem lb_if {f : (Bool → P → Option Ω) → Option Ω} {fa fb : P → (J1 → Option Ω) → Option Ω} {fr : J1 → (J → Option Ω) → Option Ω} (hc : LT X env c e' f) (ha : ∀ p, LB X SR envR kr bk ct (e' p) sa env1 (fa p)) (hb : ∀ p, LB X SR envR kr bk ct (e' p) sb env1 (fb p)) (hr : ∀ j, LB X SR envR kr bk ct (env1 j) rest envJ (fr j)) :
    LB X SR envR kr bk ct env (.If c sa sb pos :: rest) envJ (fun kn => f fun b p => if b = true then fa p fun j => fr j kn else fb p fun j => fr j kn) :=
  fun C F H σs es σ kn ω D hK hl h hk qn qb qc qr => tSs.of X (pss_cons (ps_if (ptC X) (pssC X) (pssC X)) (pssC X)) (hc C F H σs es σ _ ω _ hK hl h hk fun b p F' H' hk' h' => by
    cases b with
    | true =>
      rw [if_pos rfl] at hk'
      show if true = true then _ else _
      rw [if_pos rfl]
      exact ha p C F' H' σs es σ _ ω _ hK hl h' hk' (fun j F2 H2 σ2 hk2 h2 => hr j C F2 H2 σs es σ2 kn ω D hK hl h2 hk2 qn qb qc qr) qb qc qr
    | false =>
      rw [if_neg Bool.false_ne_true] at hk'
      show if false = true then _ else _
      rw [if_neg Bool.false_ne_true]
      exact hb p C F' H' σs es σ _ ω _ hK hl h' hk' (fun j F2 H2 σ2 hk2 h2 => hr j C F2 H2 σs es σ2 kn ω D hK hl h2 hk2 qn qb qc qr) qb qc qr)
/-- an if whose body never goes on -/
theorem lb_ifr {f : (Bool → P → Option Ω) → Option Ω} {fa : P → (Empty → Option Ω) → Option Ω} {fr : P → (J → Option Ω) → Option Ω} (hc : LT X env c e' f) (ha : ∀ p, LB X SR envR kr bk ct (e' p) sa (fun z : Empty => z.elim) (fa p)) (hr : ∀ p, LB X SR envR kr bk ct (e' p) rest envJ (fr p)) :
    LB X SR envR kr bk ct env (.If c sa [] pos :: rest) envJ (fun kn => f fun b p => if b = true then fa p (fun z => z.elim) else fr p kn) :=
  fun C F H σs es σ kn ω D hK hl h hk qn qb qc qr => tSs.of X (pss_cons (ps_if (ptC X) (pssC X) pss_nil) (pssC X)) (hc C F H σs es σ _ ω _ hK hl h hk fun b p F' H' hk' h' => by
    cases b with
    | true =>
      rw [if_pos rfl] at hk'
      show if true = true then _ else _
      rw [if_pos rfl]
      exact ha p C F' H' σs es σ _ ω _ hK hl h' hk' (fun z => z.elim) qb qc qr
    | false =>
      rw [if_neg Bool.false_ne_true] at hk'
      show if false = true then _ else _
      rw [if_neg Bool.false_ne_true]
      exact hr p C F' H' σs es σ kn ω D hK hl h' hk' qn qb qc qr)
theorem lb_ret {f : (R → P → Option Ω) → Option Ω} (he : LX X env e SR e' f) (g : P → I) (hs : ∀ p, Sub (e' p) (envR (g p))) : LB X SR envR kr bk ct env (.Return (some e) pos :: rest) envJ (fun _ => f fun x p => kr x (g p)) :=
  fun C F H σs es σ kn ω D hK hl h hk qn qb qc qr => tSs.of X (pss_cons (ps_ret (peC X)) (pssC X)) (he C F H σs es σ _ ω _ hK hl h hk fun x p v F' H' hk' h' =>
    qr x (g p) v F' H' σ hk' (ER.sub h' (.keep ((hs p).pre es))))
theorem lb_brk (j : bk.J) (hs : Sub env (bk.env j)) : LB X SR envR kr bk ct env (.Break pos :: rest) envJ (fun _ => bk.k j) :=
  fun C F H σs es σ kn ω D hK hl h hk qn qb qc qr => tSs.of X (pss_cons ps_break (pssC X)) (qb j F H σ hk (h.subF hs))
theorem lb_cont (j : ct.J) (hs : Sub env (ct.env j)) : LB X SR envR kr bk ct env (.Continue pos :: rest) envJ (fun _ => ct.k j) :=
  fun C F H σs es σ kn ω D hK hl h hk qn qb qc qr => tSs.of X (pss_cons ps_continue (pssC X)) (qc j F H σ hk (h.subF hs))
theorem lb_pass {f : (J → Option Ω) → Option Ω} (hr : LB X SR envR kr bk ct env rest envJ f) : LB X SR envR kr bk ct env (.Pass pos :: rest) envJ f :=
  fun C F H σs es σ kn ω D hK hl h hk qn qb qc qr => tSs.of X (pss_cons ps_pass (pssC X)) (hr C F H σs es σ kn ω D hK hl h hk qn qb qc qr)
/-- an expression for what it does -/
theorem lb_expr {f : (τ → P → Option Ω) → Option Ω} {fr : P → (J → Option Ω) → Option Ω} (he : LX X env e S e' f) (hr : ∀ p, LB X SR envR kr bk ct (e' p) rest envJ (fr p)) (hs : swapsWith e none pos.line X.env = pure false := by rfl) :
    LB X SR envR kr bk ct env (.Expr e pos :: rest) envJ (fun kn => f fun _ p => fr p kn) :=
  fun C F H σs es σ kn ω D hK hl h hk qn qb qc qr => tSs.of X (pss_cons (ps_expr (peC X) hs) (pssC X)) (he C F H σs es σ _ ω _ hK hl h hk fun x p v F' H' hk' h' =>
    hr p C F' H' σs es σ kn ω D hK hl h'.pop hk' qn qb qc qr)
/-- a for; T: what it carries -/
theorem lb_for {T : Type} {envT : T → Env} {envX : T → α → Env} {f : (List α → P → Option Ω) → Option Ω} {fb : α → T → (T → Option Ω) → (T → Option Ω) → (T → Option Ω) → Option Ω} {fr : T → (J → Option Ω) → Option Ω}
    (hp : PassesOwn (model X.prog X.w) X.A X.env X.xe) (hc : X.calm = true) (hi : LI X env tg iter Sa e' f) (t0 : P → T) (h0 : ∀ p, Sub (e' p) (envT (t0 p))) (hg : ∀ t, LG X ix (envT t) tg Sa (envX t))
    (hb : ∀ x t kc kb, LB X SR envR kr ⟨T, envT, kb⟩ ⟨T, envT, kc⟩ (envX t x) sts envT (fun kn => fb x t kn kc kb)) (hr : ∀ t, LB X SR envR kr bk ct (envT t) rest envJ (fr t)) (hs : ∀ x, foldedSetIterable iter X.env x = pure x := by intro _; rfl) :
    LB X SR envR kr bk ct env (.For tg iter sts [] pos :: rest) envJ (fun kn => f fun xs p => forO xs (t0 p) (fun x t kc => fb x t kc kc fun t' => fr t' kn) fun t' => fr t' kn) :=
  fun C F H σs es σ kn ω D hK hl h hk qn qb qc qr => tSs.of X (pss_cons (ps_for hp hc (piC X) (pgC X) (pssC X) hs) (pssC X)) (hi C F H σs es σ _ ω _ hK hl h hk fun xs p Jt F' H' σx ex hk' h' hy => by
    have out : ∀ t F2 H2 σ2, fr t kn = some ω → ER C F2 H2 (σx ++ (σs ++ σ2)) (ex ++ (es ++ envT t)) → tSs X rest D σ2 H2 := fun t F2 H2 σ2 hk2 h2 =>
      hr t C F2 H2 σs es σ2 kn ω D hK hl (h2.popN hy.len) hk2 qn qb qc qr
    refine ⟨fun i m σ2 H2 => m = xs.length - i ∧ i ≤ xs.length ∧ ∃ t F2, ER C F2 H2 (σx ++ (σs ++ σ2)) (ex ++ (es ++ envT t)) ∧ forO (xs.drop i) t (fun x t kc => fb x t kc kc fun t' => fr t' kn) (fun t' => fr t' kn) = some ω,
      ⟨xs.length, by simp, Nat.zero_le _, t0 p, F', h'.sub (((h0 p).pre es).pre ex), by simpa using hk'⟩, ?_⟩
    rintro i m σ2 H2 ⟨rfl, hi, t, F2, h2, hk2⟩
    obtain ⟨y1, y2⟩ := hy.go i F2 H2 [] (σs ++ σ2) [] (es ++ envT t) rfl h2
    by_cases hlt : i < xs.length
    · have ex1 : xs[i]? = some xs[i] := List.getElem?_eq_getElem hlt
      obtain ⟨g1, g2⟩ := y1 _ ex1
      have ed : xs.drop i = xs[i] :: xs.drop (i + 1) := List.drop_eq_getElem_cons hlt
      rw [ed] at hk2
      refine .inr ⟨g1, fun σ3 H3 => ∃ t F3, ER C F3 H3 (σx ++ (σs ++ σ3)) (ex ++ (es ++ envT t)) ∧ forO (xs.drop (i + 1)) t (fun x t kc => fb x t kc kc fun t' => fr t' kn) (fun t' => fr t' kn) = some ω,
        fun σ3 H3 ⟨t3, F3, h3, hk3⟩ => ⟨xs.length - (i + 1), by omega, rfl, hlt, t3, F3, h3, hk3⟩, fun v H3 hv => ?_⟩
      obtain ⟨F3, h3⟩ := g2 v H3 hv
      refine hg t C F3 H3 (σx ++ σs) (ex ++ es) σ2 v xs[i] _ hK (by simp [hl, hy.len]) (by simpa [List.append_assoc] using h3) fun σ4 _ h4 => ?_
      refine hb xs[i] t (fun s' => forO (xs.drop (i + 1)) s' (fun x t kc => fb x t kc kc fun t' => fr t' kn) fun t' => fr t' kn) (fun t' => fr t' kn) C F3 H3 (σx ++ σs) (ex ++ es) σ4 _ ω _ hK (by simp [hl, hy.len]) h4 hk2 ?_ ?_ ?_ ?_
      · intro t5 F5 H5 σ5 hk5 h5; exact ⟨t5, F5, by simpa [List.append_assoc] using h5, hk5⟩
      · intro t5 F5 H5 σ5 hk5 h5; exact out t5 F5 H5 σ5 hk5 (by simpa [List.append_assoc] using h5)
      · intro t5 F5 H5 σ5 hk5 h5; exact ⟨t5, F5, by simpa [List.append_assoc] using h5, hk5⟩
      · intro a5 i5 v5 F5 H5 σ5 hk5 h5
        refine qr a5 i5 v5 F5 H5 σ5 hk5 ?_
        have h6 : ER C F5 H5 (σx ++ (some v5 :: (σs ++ σ5))) (ex ++ (.st none R SR a5 :: (es ++ envR i5))) := by
          have z : ER C F5 H5 ([some v5] ++ (σx ++ (σs ++ σ5))) ([.st none R SR a5] ++ (ex ++ (es ++ envR i5))) := by simpa [List.append_assoc] using h5
          exact ER.unrot z hy.len
        exact h6.popN hy.len
    · have e : i = xs.length := by omega
      subst e
      refine .inl ⟨y2 (by simp), out t F2 H2 σ2 ?_ h2⟩
      simpa [forO] using hk2)
end
end Z

set_option Elab.async false
set_option linter.all false
set_option maxRecDepth 100000
namespace Z
open PySem PySem.Spec PyProof.Rows L2

/-! ### and, or, if-else -/
section
variable (X : Cx) {Ω : Type}
def tW (e : Expr) : TT := fun σ H Q => ∀ whole pins s, Inv X pins σ H s → wpAny (model X.prog X.w) X.A (isTrue e X.env whole) (TP X pins σ Q) X.xe s
theorem pwC {e : Expr} : PW X e (tW X e) := ⟨fun whole pins s σ H Q I h => h whole pins s I⟩
theorem tW.of {e : Expr} {t : TT} {σ : L2.St} {H : Hp} {Q : Bool → Hp → Prop} (h : PW X e t) (q : t σ H Q) : tW X e σ H Q := fun whole pins s I => h.run whole pins s σ H Q I q
def LW (env : Env) (e : Expr) {P : Type} (env' : P → Env) (f : (Bool → P → Option Ω) → Option Ω) : Prop :=
  ∀ (C : Ck) (F H : Hp) (σs : List (Option V)) (es : Env) (σ : List (Option V)) (k : Bool → P → Option Ω) (ω : Ω) (Q : Bool → Hp → Prop), C.K = X.K → σs.length = es.length → ER C F H (σs ++ σ) (es ++ env) → f k = some ω →
    (∀ a p F' H', k a p = some ω → ER C F' H' (σs ++ σ) (es ++ env' p) → Q a H') → tW X e σ H Q
end
section
variable {X : Cx} {Ω : Type} {env : Env} {nm : Str} {pos : Pos} {a b c e : Expr} {xs rest : List Expr} {P P1 P2 P3 A : Type} {τ τ1 τ2 α β : Type} {S : Stor τ} {S1 : Stor τ1} {S2 : Stor τ2} {E : Enc τ} {E1 : Enc τ1} {E2 : Enc τ2}
  {G : Env → Prop} {e' : P → Env} {e1 : P1 → Env} {e2 : P1 → P2 → Env} {e3 : P1 → P3 → Env}
theorem lt_w {f : (Bool → P → Option Ω) → Option Ω} (h : LW X env e e' f) : LT X env e e' f :=
  fun C F H σs es σ k ω Q hK hl hr hk q => tT.of X (pwC X).pt (h C F H σs es σ k ω Q hK hl hr hk q)
theorem lw_and1 {f : (Bool → P → Option Ω) → Option Ω} (h : LT X env a e' f) : LW X env (.BoolOp .And [a] pos) e' f :=
  fun C F H σs es σ k ω Q hK hl hr hk q => tW.of X (pw_and1 (ptC X)) (h C F H σs es σ k ω Q hK hl hr hk q)
theorem lw_or1 {f : (Bool → P → Option Ω) → Option Ω} (h : LT X env a e' f) : LW X env (.BoolOp .Or [a] pos) e' f :=
  fun C F H σs es σ k ω Q hK hl hr hk q => tW.of X (pw_or1 (ptC X)) (h C F H σs es σ k ω Q hK hl hr hk q)
theorem lw_and {fa : (Bool → P1 → Option Ω) → Option Ω} {fb : P1 → (Bool → P2 → Option Ω) → Option Ω} (ha : LT X env a e1 fa) (hb : ∀ p1, LW X (e1 p1) (.BoolOp .And (b :: rest) pos) (e2 p1) (fb p1)) (hs : ∀ p1 p2, Sub (e2 p1 p2) (e1 p1)) :
    LW X env (.BoolOp .And (a :: b :: rest) pos) e1 (fun k => fa fun x p1 => if x = true then fb p1 fun y _ => k y p1 else k false p1) :=
  fun C F H σs es σ k ω Q hK hl hr hk q => tW.of X (pw_and (ptC X) (pwC X)) (ha C F H σs es σ _ ω _ hK hl hr hk fun x p1 F' H' hk' h' => by
    cases x with
    | true => rw [if_pos rfl] at hk' ⊢; exact hb p1 C F' H' σs es σ _ ω Q hK hl h' hk' fun y p2 F2 H2 hk2 h2 => q y p1 F2 H2 hk2 (h2.subF (hs p1 p2))
    | false => rw [if_neg Bool.false_ne_true] at hk' ⊢; exact q false p1 F' H' hk' h')
theorem lw_or {fa : (Bool → P1 → Option Ω) → Option Ω} {fb : P1 → (Bool → P2 → Option Ω) → Option Ω} (ha : LT X env a e1 fa) (hb : ∀ p1, LW X (e1 p1) (.BoolOp .Or (b :: rest) pos) (e2 p1) (fb p1)) (hs : ∀ p1 p2, Sub (e2 p1 p2) (e1 p1)) :
    LW X env (.BoolOp .Or (a :: b :: rest) pos) e1 (fun k => fa fun x p1 => if x = true then k true p1 else fb p1 fun y _ => k y p1) :=
  fun C F H σs es σ k ω Q hK hl hr hk q => tW.of X (pw_or (ptC X) (pwC X)) (ha C F H σs es σ _ ω _ hK hl hr hk fun x p1 F' H' hk' h' => by
    cases x with
    | true => rw [if_pos rfl] at hk' ⊢; exact q true p1 F' H' hk' h'
    | false => rw [if_neg Bool.false_ne_true] at hk' ⊢; exact hb p1 C F' H' σs es σ _ ω Q hK hl h' hk' fun y p2 F2 H2 hk2 h2 => q y p1 F2 H2 hk2 (h2.subF (hs p1 p2)))
/-- as values -/
theorem lx_one {op : BoolOp} {f : (Bool → P → Option Ω) → Option Ω} (h : LX X env a (it eB) e' f) : LX X env (.BoolOp op [a] pos) (it eB) e' f :=
  fun C F H σs es σ k ω Q hK hl hr hk q => tE.of X (pe_one (peC X)) (h C F H σs es σ k ω Q hK hl hr hk q)
theorem ER.topB {C : Ck} {F H : Hp} {v : V} {x : Bool} {σ : List (Option V)} {env : Env} (h : ER C F H (some v :: σ) (.st none Bool (it eB) x :: env)) : v = .bl x := by
  obtain ⟨v', fp, e1, r⟩ := h.look (i := 0) rfl
  simp at e1; subst e1
  obtain ⟨_, r⟩ := r
  cases r; rfl
theorem lx_and {fa : (Bool → P1 → Option Ω) → Option Ω} {fb : P1 → (Bool → P2 → Option Ω) → Option Ω} (ha : LX X env a (it eB) e1 fa) (hb : ∀ p1, LX X (e1 p1) (.BoolOp .And (b :: rest) pos) (it eB) (e2 p1) (fb p1)) (hs : ∀ p1 p2, Sub (e2 p1 p2) (e1 p1)) :
    LX X env (.BoolOp .And (a :: b :: rest) pos) (it eB) e1 (fun k => fa fun x p1 => if x = true then fb p1 fun y _ => k y p1 else k false p1) :=
  fun C F H σs es σ k ω Q hK hl hr hk q => tE.of X (pe_and (peC X) (peC X)) (ha C F H σs es σ _ ω _ hK hl hr hk fun x p1 v F' H' hk' h' => by
    refine ⟨x, h'.topB, ?_⟩
    cases x with
    | true => rw [if_pos rfl] at hk' ⊢; exact hb p1 C F' H' σs es σ _ ω Q hK hl h'.pop hk' fun y p2 u F2 H2 hk2 h2 => q y p1 u F2 H2 hk2 (ER.sub h2 (.keep ((hs p1 p2).pre es)))
    | false => rw [if_neg Bool.false_ne_true] at hk' ⊢; exact q false p1 _ F' H' hk' (h'.pop.pushSh (.bl _)))
theorem lx_or {fa : (Bool → P1 → Option Ω) → Option Ω} {fb : P1 → (Bool → P2 → Option Ω) → Option Ω} (ha : LX X env a (it eB) e1 fa) (hb : ∀ p1, LX X (e1 p1) (.BoolOp .Or (b :: rest) pos) (it eB) (e2 p1) (fb p1)) (hs : ∀ p1 p2, Sub (e2 p1 p2) (e1 p1)) :
    LX X env (.BoolOp .Or (a :: b :: rest) pos) (it eB) e1 (fun k => fa fun x p1 => if x = true then k true p1 else fb p1 fun y _ => k y p1) :=
  fun C F H σs es σ k ω Q hK hl hr hk q => tE.of X (pe_or (peC X) (peC X)) (ha C F H σs es σ _ ω _ hK hl hr hk fun x p1 v F' H' hk' h' => by
    refine ⟨x, h'.topB, ?_⟩
    cases x with
    | true => rw [if_pos rfl] at hk' ⊢; exact q true p1 _ F' H' hk' (h'.pop.pushSh (.bl _))
    | false => rw [if_neg Bool.false_ne_true] at hk' ⊢; exact hb p1 C F' H' σs es σ _ ω Q hK hl h'.pop hk' fun y p2 u F2 H2 hk2 h2 => q y p1 u F2 H2 hk2 (ER.sub h2 (.keep ((hs p1 p2).pre es))))
theorem lx_not {f : (Bool → P → Option Ω) → Option Ω} (h : LX X env a (it eB) e' f) : LX X env (.UnaryOp .Not a pos) (it eB) e' (fun k => f fun x p => k (!x) p) :=
  fun C F H σs es σ k ω Q hK hl hr hk q => tE.of X (pe_not (peC X)) (h C F H σs es σ _ ω _ hK hl hr hk fun x p v F' H' hk' h' => ⟨x, h'.topB, q _ p _ F' H' hk' (h'.pop.pushSh (.bl _))⟩)
theorem lx_if {fc : (Bool → P1 → Option Ω) → Option Ω} {fa : P1 → (τ → P2 → Option Ω) → Option Ω} {fb : P1 → (τ → P3 → Option Ω) → Option Ω} (hc : LT X env c e1 fc) (ha : ∀ p1, LX X (e1 p1) a S (e2 p1) (fa p1)) (hb : ∀ p1, LX X (e1 p1) b S (e3 p1) (fb p1))
    (hs : ∀ p1 p2, Sub (e2 p1 p2) (e1 p1)) (hs3 : ∀ p1 p3, Sub (e3 p1 p3) (e1 p1)) :
    LX X env (.IfExp c a b pos) S e1 (fun k => fc fun x p1 => if x = true then fa p1 fun y _ => k y p1 else fb p1 fun y _ => k y p1) :=
  fun C F H σs es σ k ω Q hK hl hr hk q => tE.of X (pe_ifExp (ptC X) (peC X) (peC X)) (hc C F H σs es σ _ ω _ hK hl hr hk fun x p1 F' H' hk' h' => by
    cases x with
    | true => rw [if_pos rfl] at hk' ⊢; exact ha p1 C F' H' σs es σ _ ω Q hK hl h' hk' fun y p2 u F2 H2 hk2 h2 => q y p1 u F2 H2 hk2 (ER.sub h2 (.keep ((hs p1 p2).pre es)))
    | false => rw [if_neg Bool.false_ne_true] at hk' ⊢; exact hb p1 C F' H' σs es σ _ ω Q hK hl h' hk' fun y p2 u F2 H2 hk2 h2 => q y p1 u F2 H2 hk2 (ER.sub h2 (.keep ((hs3 p1 p2).pre es))))
end

/-! ### while; stores into own lists -/
section
variable {C : Ck} {F F' H H' : Hp} {σ : List (Option V)} {env : Env} {o : Option V} {τ τ0 : Type} {S : Stor τ} {S0 : Stor τ0} {x : τ} {y : τ0} {v : V} {w : Option V} {i : Nat}
/-- the stack's top goes into the objects of slot i -/
theorem ER.absorb (h : ER C F H (o :: σ) (.st none τ0 S0 y :: env)) (e : env[i]? = some (.st w τ S x)) : ∃ v fp v0 fq, σ[i]? = some (some v) ∧ o = some v0 ∧ S.rel C.K F H fp v x ∧ S0.rel C.K F H fq v0 y ∧ (fp ++ fq).Nodup ∧ (∀ a ∈ fp ++ fq, C.B a = none ∧ F a = none ∧ H a ≠ none) ∧
    ∀ (τ' : Type) (S' : Stor τ') (x' : τ') (H' : Hp) (fp' : List Addr), (∀ a, a ∉ fp ++ fq → H a ≠ none → H' a = H a) → (∀ a, H a ≠ none → H' a ≠ none) → S'.rel C.K F H' fp' v x' → fp'.Nodup → (∀ a ∈ fp', H' a ≠ none ∧ (a ∈ fp ++ fq ∨ H a = none)) → ER C F H' σ (env.set i (.st w τ' S' x')) := by
  obtain ⟨fp, q⟩ := h.sl
  obtain ⟨hi, _⟩ := List.getElem?_eq_some_iff.mp e
  obtain ⟨v, e1, r, k⟩ := q.ok (i + 1) _ (by simpa using e)
  obtain ⟨v0, e0, r0, k0⟩ := q.ok 0 _ rfl
  have e1' : σ[i]? = some (some v) := by
    simp at e1
    cases z : σ[i]? with
    | none => rw [z] at e1; cases e1
    | some o => rw [z] at e1; exact congrArg some e1
  have e0' : o = some v0 := by simpa using e0
  have hi1 : i + 1 < (Slot.st none τ0 S0 y :: env).length := by simpa using hi
  have h00 : 0 < (Slot.st none τ0 S0 y :: env).length := by simp
  have ownu : ∀ a ∈ fp (i + 1) ++ fp 0, C.B a = none ∧ F a = none ∧ H a ≠ none := fun a m => by
    rcases List.mem_append.mp m with m | m
    · exact q.own (i + 1) hi1 a m
    · exact q.own 0 h00 a m
  have ndu : (fp (i + 1) ++ fp 0).Nodup := by
    rw [List.nodup_append]
    refine ⟨q.nd (i + 1) hi1, q.nd 0 h00, fun a ha b hb z => ?_⟩
    subst z
    have := q.sep (i + 1) 0 hi1 h00 a ha hb
    omega
  refine ⟨v, fp (i + 1), v0, fp 0, e1', e0', r, r0, ndu, ownu, fun τ' S' x' H' fp' hk hs r' nd' sub => ?_⟩
  have hp := h.pop
  have bne : ∀ a, C.B a ≠ none → a ∉ fp (i + 1) ++ fp 0 := fun a m z => m (ownu a z).1
  have notu : ∀ j, j < env.length → j ≠ i → ∀ a ∈ fp (j + 1), a ∉ fp (i + 1) ++ fp 0 := fun j hj ne a ha z => by
    have hj1 : j + 1 < (Slot.st none τ0 S0 y :: env).length := by simpa using hj
    rcases List.mem_append.mp z with z | z
    · have := q.sep (j + 1) (i + 1) hj1 hi1 a ha z; omega
    · have := q.sep (j + 1) 0 hj1 h00 a ha z; omega
  refine ⟨fun a o m => ?_, fun a o m => ?_, h.gr, fun a m => hs a (h.up a m), by simp [hp.len], fun j => if j = i then fp' else fp (j + 1), fun j s' ej => ?_, fun j hj a ha => ?_, fun j l hj hl a ha hb => ?_, fun j hj => ?_⟩
  · have m' : C.B a ≠ none := by rw [m]; exact fun z => by cases z
    rw [hk a (bne a m') (same_some h.sB m')]; exact h.sB a o m
  · have m' : F a ≠ none := by rw [m]; exact fun z => by cases z
    rw [hk a (fun z => m' (ownu a z).2.1) (same_some h.sF m')]; exact h.sF a o m
  · by_cases z : j = i
    · subst z
      rw [List.getElem?_set_self hi] at ej
      cases ej
      refine ⟨v, by rw [e1']; rfl, ?_, ?_⟩
      · simpa using r'
      · simp only [if_pos]
        cases w with
        | none =>
          intro a ha
          rcases (sub a ha).2 with m | m
          · rcases List.mem_append.mp m with m | m
            · exact k a m
            · exact k0 a m
          · exact h.hnone m
        | some w0 =>
          refine ⟨k.1, fun a ha => ?_⟩
          rcases (sub a ha).2 with m | m
          · rcases List.mem_append.mp m with m | m
            · exact k.2 a m
            · exact .inl (k0 a m)
          · exact .inl (h.hnone m)
    · rw [List.getElem?_set_ne (fun y => z y.symm)] at ej
      have hj : j < env.length := (List.getElem?_eq_some_iff.mp ej).1
      simp only [if_neg z]
      have := q.ok (j + 1) s' (by simpa using ej)
      simp only [List.getElem?_cons_succ] at this
      refine this.go (fun _ _ y => y) (fun a m => hk a (bne a m) (same_some h.sB m)) fun a ha => ?_
      exact hk a (notu j hj z a ha) (q.own (j + 1) (by simpa using hj) a ha).2.2
  · have hj' : j < env.length := by simpa using hj
    by_cases z : j = i
    · subst z
      simp only [if_pos] at ha
      obtain ⟨m1, m⟩ := sub a ha
      rcases m with m | m
      · exact ⟨(ownu a m).1, (ownu a m).2.1, m1⟩
      · exact ⟨h.bnone m, h.fnone m, m1⟩
    · simp only [if_neg z] at ha
      obtain ⟨b, f, c⟩ := q.own (j + 1) (by simpa using hj') a ha
      exact ⟨b, f, hs a c⟩
  · have hj' : j < env.length := by simpa using hj
    have hl' : l < env.length := by simpa using hl
    by_cases zj : j = i
    · by_cases zl : l = i
      · rw [zj, zl]
      · simp only [if_pos zj] at ha
        simp only [if_neg zl] at hb
        rcases (sub a ha).2 with m | m
        · exact absurd m (notu l hl' zl a hb)
        · exact absurd m (q.own (l + 1) (by simpa using hl') a hb).2.2
    · simp only [if_neg zj] at ha
      by_cases zl : l = i
      · simp only [if_pos zl] at hb
        rcases (sub a hb).2 with m | m
        · exact absurd m (notu j hj' zj a ha)
        · exact absurd m (q.own (j + 1) (by simpa using hj') a ha).2.2
      · simp only [if_neg zl] at hb
        have := q.sep (j + 1) (l + 1) (by simpa using hj') (by simpa using hl') a ha hb
        omega
  · have hj' : j < env.length := by simpa using hj
    by_cases z : j = i
    · simp only [if_pos z]; exact nd'
    · simp only [if_neg z]; exact q.nd (j + 1) (by simpa using hj')
theorem RelAll.app {α : Type} {R : List Addr → V → α → Prop} : ∀ {fp : List Addr} {vs : List V} {xs : List α} {fq : List Addr} {v : V} {x : α}, RelAll R fp vs xs → R fq v x → RelAll R (fp ++ fq) (vs ++ [v]) (xs ++ [x])
  | _, _, _, fq, v, x, .nil, h => by simpa using RelAll.cons h .nil
  | _, _, _, fq, v, x, .cons h r, q => by
    rw [List.append_assoc]
    exact .cons h (r.app q)
theorem RelAll.length {α : Type} {R : List Addr → V → α → Prop} : ∀ {fp : List Addr} {vs : List V} {xs : List α}, RelAll R fp vs xs → vs.length = xs.length
  | _, _, _, .nil => rfl
  | _, _, _, .cons _ r => congrArg (· + 1) r.length
end
def SZ : Nat := 16777216
theorem SZ_eq : sizeLine = SZ := sizeLine_eq
section
variable {X : Cx} {R I Ω : Type} {SR : Stor R} {envR : I → Env} {kr : R → I → Option Ω} {bk ct : Lp Ω} {env : Env} {nm : Str} {pos : Pos} {c e tg iter : Expr} {sts sa sb rest : List Stmt} {P P1 P2 A : Type} {τ α : Type} {S : Stor τ} {Sa : Stor α} {e' : P → Env} {ix : List Nat} {J J1 : Type} {envJ : J → Env} {env1 : J1 → Env}
/-- a while, with fuel n -/
theorem lb_while {T Pt : Type} {envT : T → Env} {eT : T → Pt → Env} {fc : T → (Bool → Pt → Option Ω) → Option Ω} {fb : T → Pt → (T → Option Ω) → (T → Option Ω) → (T → Option Ω) → Option Ω} {fr : T → (J → Option Ω) → Option Ω} (n : Nat)
    (hp : PassesOwn (model X.prog X.w) X.A X.env X.xe) (t0 : T) (h0 : Sub env (envT t0)) (hc : ∀ t, LT X (envT t) c (eT t) (fc t)) (hx : ∀ t p, Sub (eT t p) (envT t))
    (hb : ∀ t p kc kb, LB X SR envR kr ⟨T, envT, kb⟩ ⟨T, envT, kc⟩ (eT t p) sts envT (fun kn => fb t p kn kc kb)) (hr : ∀ t, LB X SR envR kr bk ct (envT t) rest envJ (fr t)) :
    LB X SR envR kr bk ct env (.While c sts [] pos :: rest) envJ (fun kn => whileO n t0 fun t kc => fc t fun b p => if b = true then fb t p kc kc fun t' => fr t' kn else fr t kn) :=
  fun C F H σs es σ kn ω D hK hl h hk qn qb qc qr => tSs.of X (pss_cons (ps_while hp (ptC X) (pssC X)) (pssC X)) (by
    have out : ∀ t F2 H2 σ2, fr t kn = some ω → ER C F2 H2 (σs ++ σ2) (es ++ envT t) → tSs X rest D σ2 H2 := fun t F2 H2 σ2 hk2 h2 =>
      hr t C F2 H2 σs es σ2 kn ω D hK hl h2 hk2 qn qb qc qr
    refine ⟨fun m σ2 H2 => ∃ t F2, ER C F2 H2 (σs ++ σ2) (es ++ envT t) ∧ whileO m t (fun t kc => fc t fun b p => if b = true then fb t p kc kc fun t' => fr t' kn else fr t kn) = some ω, ⟨n, t0, F, h.subF h0, hk⟩, ?_⟩
    rintro m σ2 H2 ⟨t, F2, h2, hk2⟩
    cases m with
    | zero => cases hk2
    | succ m =>
      refine hc t C F2 H2 σs es σ2 _ ω _ hK hl h2 hk2 fun b p F3 H3 hk3 h3 => ?_
      cases b with
      | true =>
        rw [if_pos rfl] at hk3 ⊢
        refine ⟨fun σ4 H4 => ∃ t F4, ER C F4 H4 (σs ++ σ4) (es ++ envT t) ∧ whileO m t (fun t kc => fc t fun b p => if b = true then fb t p kc kc fun t' => fr t' kn else fr t kn) = some ω, fun σ4 H4 ⟨t4, F4, h4, hk4⟩ => ⟨m, Nat.lt_succ_self m, t4, F4, h4, hk4⟩, ?_⟩
        refine hb t p (fun s' => whileO m s' fun t kc => fc t fun b p => if b = true then fb t p kc kc fun t' => fr t' kn else fr t kn) (fun t' => fr t' kn) C F3 H3 σs es σ2 _ ω _ hK hl h3 hk3 ?_ ?_ ?_ ?_
        · intro t5 F5 H5 σ5 hk5 h5; exact ⟨t5, F5, h5, hk5⟩
        · intro t5 F5 H5 σ5 hk5 h5; exact out t5 F5 H5 σ5 hk5 h5
        · intro t5 F5 H5 σ5 hk5 h5; exact ⟨t5, F5, h5, hk5⟩
        · intro a5 i5 v5 F5 H5 σ5 hk5 h5; exact qr a5 i5 v5 F5 H5 σ5 hk5 h5
      | false =>
        rw [if_neg Bool.false_ne_true] at hk3 ⊢
        exact out t F3 H3 σ2 hk3 (h3.subF (hx t p)))
/-- x.append(e), x a list of one's own -/
theorem lb_app {f : (α → P → Option Ω) → Option Ω} {fr : α → P → (J → Option Ω) → Option Ω} {w : Option V} {x0 : List α} {xs : P → List α} {ap cp np : Pos} (i : Nat) (h0 : env[i]? = some (.st w (List α) (ls Sa) x0))
    (he : LX X env e Sa e' f) (h1 : ∀ p, (e' p)[i]? = some (.st w (List α) (ls Sa) (xs p))) (hr : ∀ y p, LB X SR envR kr bk ct ((e' p).set i (.st w (List α) (ls Sa) (xs p ++ [y]))) rest envJ (fr y p))
    (hN : X.N[i]? = some nm := by rfl) (hv : Vis X.env.scope nm := by first | exact Or.inl rfl | exact Or.inr (Or.inl rfl) | exact Or.inr (Or.inr rfl))
    (hd : (nm == ("__debug__" : Str)) = false := by decide) (hcd : (nm == ("__classdict__" : Str)) = false := by decide)
    (hbase : attributeBase (.Name nm np) "append" X.env (eval (.Name nm np) X.env) = eval (.Name nm np) X.env := by rfl)
    (hfew : ((backTo cp (starEach [e] X.env)).all (fun x => !x.1) && (backToKw cp (keywordEach [] X.env)).all (fun x => x.1.isSome) && decide ([e].length + ([] : List Keyword).length + (if ([] : List Keyword).isEmpty then 0 else 1) < 30)) = true := by rfl)
    (hline : (ap.endLine == cp.line) = true := by rfl) (hse : starEach [e] X.env = (false, eval e X.env) :: starEach [] X.env := by rfl) (hplain : (backTo cp (starEach [] X.env)).any (·.1) = false := by rfl)
    (hsw : swapsWith (.Call (.Attribute (.Name nm np) "append" ap) [e] [] cp) none pos.line X.env = pure false := by rfl) :
    LB X SR envR kr bk ct env (.Expr (.Call (.Attribute (.Name nm np) "append" ap) [e] [] cp) pos :: rest) envJ (fun kn => f fun y p => ck (decide ((xs p).length < SZ)) (fr y p kn)) :=
  fun C F H σs es σ kn ω D hK hl h hk qn qb qc qr => tSs.of X (pss_cons (ps_expr (pe_bm PySem.F.plainAttrs_list PySem.F.slot_list_append PySem.F.type_list_append mt_append (pe_var hN hv hd hcd) (pa_cons (peC X) pa_nil hse) hbase hfew hline hse hplain) hsw) (pssC X)) (by
    obtain ⟨l, fp, e1, r⟩ := h.lookF hl h0
    obtain ⟨q0, vs0, fps0, rfl, hq0, _, _⟩ := r
    refine ⟨_, e1, .inl ⟨rfl, vs0, SqL.of hq0⟩, he C F H σs es σ _ ω _ hK hl h hk fun y p v F' H' hk' h' => ?_⟩
    obtain ⟨hc, hk'⟩ := ck_some hk'
    obtain ⟨v', fp', v0, fq, e2, e3, r1, r2, nd, ow, fin⟩ := h'.absorb (i := es.length + i) (by rw [at_app _ rfl]; exact h1 p)
    rw [at_app _ hl, e1] at e2
    cases e2; cases e3
    obtain ⟨q1, vs, fps, e4, hq, ra, rfl⟩ := r1
    cases e4
    have hlen := ra.length
    have hc' := of_decide_eq_true hc
    refine ⟨_, vs, _, rfl, rfl, hq, by rw [SZ_eq]; omega, ?_⟩
    have fin' := fin (List α) (ls Sa) (xs p ++ [y]) (upd H' q0 (.lst (vs ++ [v]))) (q0 :: (fps ++ fq)) (fun a na _ => upd_ne fun z => na (by rw [z]; simp)) (fun a m => ?_) ?_ (by simpa using nd) (fun a m => ?_)
    · rw [List.set_append_right _ _ (Nat.le_add_right _ _), Nat.add_sub_cancel_left] at fin'
      exact hr y p C F' _ σs es σ kn ω D hK hl fin' hk' qn qb qc qr
    · by_cases z : a = q0
      · subst z; rw [upd_same]; exact fun z => by cases z
      · rw [upd_ne z]; exact m
    · have nm : q0 ∉ fps ++ fq := by
        have : (q0 :: (fps ++ fq)).Nodup := by simpa using nd
        exact (List.nodup_cons.mp this).1
      refine ⟨q0, vs ++ [v], fps ++ fq, rfl, upd_same, RelAll.imp (fun fr' v' x' s q => Sa.frame (fun a m => upd_ne fun z => nm (z ▸ s a m)) q) (ra.app r2), rfl⟩
    · refine ⟨?_, .inl (by simpa using m)⟩
      by_cases z : a = q0
      · subst z; rw [upd_same]; exact fun z => by cases z
      · rw [upd_ne z]; exact (ow a (by simpa using m)).2.2)
/-- x[j] = e, x a list of one's own whose items are shared -/
theorem lb_setix {E : Enc α} {f : (α → P1 → Option Ω) → Option Ω} {f2 : α → P1 → (Int → P2 → Option Ω) → Option Ω} {fr : α → P1 → Int → P2 → List α → (J → Option Ω) → Option Ω} {e1 : P1 → Env} {e2 : α → P1 → P2 → Env} {w : Option V} {x1 : P1 → List α} {xs : α → P1 → P2 → List α} {ie : Expr} {np sp : Pos} (i : Nat)
    (he : LX X env e (it E) e1 f) (h1 : ∀ p, (e1 p)[i]? = some (.st w (List α) (ls (it E)) (x1 p))) (hi : ∀ y p, LX X (e1 p) ie (it eI) (e2 y p) (f2 y p)) (h2 : ∀ y p p2, (e2 y p p2)[i]? = some (.st w (List α) (ls (it E)) (xs y p p2)))
    (hr : ∀ y p j p2 zs, LB X SR envR kr bk ct ((e2 y p p2).set i (.st w (List α) (ls (it E)) zs)) rest envJ (fr y p j p2 zs))
    (hN : X.N[i]? = some nm := by rfl) (hv : Vis X.env.scope nm := by first | exact Or.inl rfl | exact Or.inr (Or.inl rfl) | exact Or.inr (Or.inr rfl))
    (hd : (nm == ("__debug__" : Str)) = false := by decide) (hcd : (nm == ("__classdict__" : Str)) = false := by decide)
    (ha : ∀ v, assign (.Subscript (.Name nm np) ie sp) X.env v = (do
      let ov ← holding [v] (eval (.Name nm np) X.env)
      let iv ← holding [v, ov] (eval ie X.env)
      standAt sp
      holding [v, ov, iv] (setItem ov iv v)
      release [v, ov, iv] []) := by intro _; rfl)
    (hs : swapsWithSole [.Subscript (.Name nm np) ie sp] e pos.line X.env = pure false := by rfl) (hw : swappedStores [.Subscript (.Name nm np) ie sp] e X.env = pure none := by rfl) (ha1 : (assignEach [.Subscript (.Name nm np) ie sp] X.env).map (·.2) = [assign (.Subscript (.Name nm np) ie sp) X.env] := by rfl) :
    LB X SR envR kr bk ct env (.Assign [.Subscript (.Name nm np) ie sp] e pos :: rest) envJ (fun kn => f fun y p => f2 y p fun j p2 => (ixN (xs y p p2).length j).bind fun n => fr y p j p2 ((xs y p p2).set n y) kn) :=
  fun C F H σs es σ kn ω D hK hl h hk qn qb qc qr => tSs.of X (pss_cons (ps_asg (peC X) (pg_sub (pe_var hN hv hd hcd) (peC X) set_list ha) hs hw ha1) (pssC X)) (he C F H σs es σ _ ω _ hK hl h hk fun y p v F' H' hk' h' => by
    obtain ⟨l, fp, e3, r⟩ := h'.pop.lookF hl (h1 p)
    refine ⟨l, e3, hi y p C F' H' (some v :: σs) (.st none α (it E) y :: es) σ _ ω _ hK (by simp [hl]) h' hk' fun j p2 u F2 H2 hk2 h3 => ?_⟩
    obtain ⟨n, hn, hk2⟩ := bind_some hk2
    have hu : u = .int j := by
      obtain ⟨v', fp, e1, r⟩ := h3.look (i := 0) rfl
      simp at e1; subst e1
      obtain ⟨_, r⟩ := r
      cases r; rfl
    subst hu
    have hv' : Rep C.K F2 v (E.enc y) := by
      obtain ⟨v', fp, e1, r⟩ := h3.look (i := 1) rfl
      simp at e1; subst e1
      exact r.2
    have h4 : ER C F2 H2 (σs ++ σ) (es ++ e2 y p p2) := h3.pop.pop
    obtain ⟨l', fp', e4, r1, nd, ow, fin⟩ := h4.mut (i := es.length + i) (by rw [at_app _ rfl]; exact h2 y p p2)
    rw [at_app _ hl, e3] at e4
    cases e4
    obtain ⟨q1, vs, fps, rfl, hq, ra, rfl⟩ := r1
    obtain ⟨rfl, rp⟩ := ra.zero
    have hlen : vs.length = (xs y p p2).length := by have := rp.length; simpa using this
    refine ⟨q1, vs, j, n, rfl, rfl, hq, by rw [hlen]; exact hn, ?_⟩
    have fin' := fin (List α) (ls (it E)) ((xs y p p2).set n y) (upd H2 q1 (.lst (vs.set n v))) [q1] (fun a na _ => upd_ne fun z => na (by rw [z]; simp)) (fun a m => ?_) ⟨q1, vs.set n v, [], rfl, upd_same, ?_, rfl⟩ (by simp) (fun a m => ?_)
    · rw [List.set_append_right _ _ (Nat.le_add_right _ _), Nat.add_sub_cancel_left] at fin'
      exact hr y p j p2 _ C F2 _ σs es σ kn ω D hK hl fin' hk2 qn qb qc qr
    · by_cases z : a = q1
      · subst z; rw [upd_same]; exact fun z => by cases z
      · rw [upd_ne z]; exact m
    · have := rp.set hv' (i := n)
      rw [← List.map_set] at this
      exact this.zero
    · simp at m; subst m
      exact ⟨by rw [upd_same]; exact (fun z => by cases z), .inl (by simp)⟩)
end
end Z

set_option Elab.async false
set_option linter.all false
set_option maxRecDepth 100000
namespace Z
open PySem PySem.Spec PyProof.Rows L2

/-! ### calls of defs -/
/-- slots that own nothing -/
inductive ShE : Env → Prop
  | nil : ShE []
  | cons {τ : Type} {S : Stor τ} {x : τ} {en : Env} : Cp S → ShE en → ShE (.st none τ S x :: en)
theorem ShE.slot : ∀ {en : Env}, ShE en → ∀ (i : Nat) (s : Slot), en[i]? = some s → ∃ (τ : Type) (S : Stor τ) (x : τ), s = Slot.st none τ S x ∧ Cp S
  | _, .nil, i, s, e => by simp at e
  | _, .cons cp r, 0, s, e => ⟨_, _, _, by simp at e; exact e.symm, cp⟩
  | _, .cons cp r, i + 1, s, e => r.slot i s (by simpa using e)
section
variable {C : Ck} {F F' H H' : Hp} {σ : List (Option V)} {env : Env} {o : Option V} {τ τ0 R : Type} {S : Stor τ} {S0 : Stor τ0} {SR : Stor R} {x : τ} {y : τ0} {v : V} {w : Option V} {i : Nat} {r : R}
theorem lt_of_get {α : Type _} {l : List α} {i : Nat} {a : α} (h : l[i]? = some a) : i < l.length := (List.getElem?_eq_some_iff.mp h).1
/-- into a def: its arguments are shared -/
theorem ER.enter {σa : List (Option V)} {ea : Env} (h : ER C F H (σa ++ σ) (ea ++ env)) (hl : σa.length = ea.length) (sh : ShE ea) : ER ⟨C.K, H, F, H, []⟩ F H σa ea := by
  obtain ⟨fp, q⟩ := h.sl
  refine ⟨fun _ _ e => e, h.sF, fun a m => .inl m, fun a m => m, hl, fun _ => [], fun j s e => ?_, fun j hj a ha => (nomatch ha), fun j l _ _ a ha => (nomatch ha), fun j _ => List.nodup_nil⟩
  have hj := lt_of_get e
  obtain ⟨τ, S, x, rfl, cp⟩ := sh.slot j s e
  obtain ⟨v, e1, r, _⟩ := q.ok j _ (by rw [List.getElem?_append_left hj]; exact e)
  rw [List.getElem?_append_left (by omega)] at e1
  have z := cp.nil r
  rw [z] at r
  exact ⟨v, e1, r, fun _ m => nomatch m⟩
def hun (F G : Hp) : Hp := fun a => match F a with
  | some o => some o
  | none => G a
theorem same_hunL : Same F (hun F F') := fun a o e => by unfold hun; rw [e]
theorem same_hunR (s : Same F H) (s' : Same F' H) : Same F' (hun F F') := fun a o e => by
  unfold hun
  cases q : F a with
  | none => exact e
  | some u =>
    have h1 := s a u q
    have h2 := s' a o e
    rw [h1] at h2
    exact h2
theorem hun_same (s : Same F H) (s' : Same F' H) : Same (hun F F') H := fun a o e => by
  unfold hun at e
  cases q : F a with
  | none => rw [q] at e; exact s' a o e
  | some u' =>
    rw [q] at e
    have e' : u' = o := Option.some.inj e
    rw [← e']
    exact s a u' q
theorem hun_some {a : Addr} (h : hun F F' a ≠ none) : F a ≠ none ∨ F' a ≠ none := by
  unfold hun at h
  cases q : F a with
  | none => rw [q] at h; exact .inr h
  | some u => exact .inl (by intro z; cases z)
theorem hun_none {a : Addr} (h : F a = none) (h' : F' a = none) : hun F F' a = none := by
  unfold hun; rw [h]; exact h'
/-- out of it -/
theorem ER.back (h : ER C F H σ env) (hc : ER ⟨C.K, H, F, H, []⟩ F' H' [some v] [.st none R SR r]) : ∃ F'', ER C F'' H' (some v :: σ) (.st none R SR r :: env) := by
  have sFH : Same F H' := fun a o e => hc.sB a o (h.sF a o e)
  have nw : ∀ a, hun F F' a ≠ none → F a ≠ none ∨ H a = none := fun a m => by
    rcases hun_some m with z | z
    · exact .inl z
    · exact hc.gr a z
  have h2 := h.grow (F' := hun F F') (H' := H') hc.sB same_hunL (hun_same sFH hc.sF) nw
  obtain ⟨fp, q⟩ := h.sl
  have q2 := q.grow h hc.sB (F' := hun F F') same_hunL nw
  obtain ⟨fq, qc⟩ := hc.sl
  obtain ⟨v', e1, rr, ne⟩ := qc.ok 0 _ rfl
  simp at e1; subst e1
  refine ⟨hun F F', h2.sB, h2.sF, h2.gr, h2.up, by simp [h2.len], _, q2.push (fq := fq 0) ⟨v, rfl, SR.monoF (same_hunR sFH hc.sF) rr, fun a m => h.hnone (ne a m)⟩ (fun a m => ?_) (qc.nd 0 (by simp)) fun j hj a ha m => ?_⟩
  · obtain ⟨b, f, c⟩ := qc.own 0 (by simp) a m
    exact ⟨h.bnone b, hun_none (h.fnone b) f, c⟩
  · exact (q.own j hj a ha).2.2 (ne a m)
/-- the promise of a def over shared arguments -/
def spP (K : Fg) {A R : Type} (sl : A → Env) (SR : Stor R) (m : A → Option R) : Sp := fun vs H Q _ => ∃ (B F : Hp) (a : A) (r : R), m a = some r ∧ (vs.map some).length = (sl a).length ∧ ER ⟨K, B, F, H, []⟩ F H (vs.map some) (sl a) ∧
  ∀ F' H' v, ER ⟨K, B, F, H, []⟩ F' H' [some v] [.st none R SR r] → Q v H'
/-- .. that changes its first argument -/
def spI (K : Fg) {A T R : Type} (ST : Stor T) (sl : A → Env) (SR : Stor R) (m : T → A → Option (R × T)) : Sp := fun vs H Q _ => ∃ (B F : Hp) (io : List Addr) (t : T) (a : A) (r : R) (t' : T) (v0 : V) (vs' : List V), vs = v0 :: vs' ∧ m t a = some (r, t') ∧ (vs'.map some).length = (sl a).length ∧
  ER ⟨K, B, F, H, io⟩ F H (vs.map some) (.st (some v0) T ST t :: sl a) ∧ ∀ F' H' v, ER ⟨K, B, F, H, io⟩ F' H' [some v, some v0] [.st none R SR r, .st (some v0) T ST t'] → Q v H'
theorem ER.head {s : Slot} (h : ER C F H (o :: σ) (s :: env)) : ER C F H [o] [s] :=
  h.perm rfl id fun j s' e => by
    cases j with
    | zero => exact .inr ⟨by simpa using e, rfl, fun l _ el _ z => by simpa using z⟩
    | succ j => simp at e
theorem ER.head2 {o2 : Option V} {s s2 : Slot} (h : ER C F H (o :: o2 :: σ) (s :: s2 :: env)) : ER C F H [o, o2] [s, s2] :=
  h.perm rfl id fun j s' e => by
    match j, e with
    | 0, e => exact .inr ⟨by simpa using e, rfl, fun l _ el _ z => by simpa using z⟩
    | 1, e => exact .inr ⟨by simpa using e, rfl, fun l _ el _ z => by simpa using z⟩
    | j + 2, e => simp at e
theorem ER.padR (h : ER C F H σ env) : ∀ n : Nat, ER C F H (σ ++ List.replicate n none) (env ++ List.replicate n .un) := fun n =>
  h.perm (by simp [h.len]) id fun j s' e => by
    by_cases z : j < env.length
    · rw [List.getElem?_append_left z] at e
      exact .inr ⟨e, by rw [List.getElem?_append_left (by rw [h.len]; exact z)]; rfl, fun l _ _ _ y => y⟩
    · rw [List.getElem?_append_right (by omega), List.getElem?_replicate] at e
      split at e
      · exact .inl (Option.some.inj e).symm
      · cases e
end

section
variable {P : Program} {w : World} {K : Fg} {mg : Str → Option Value} {base : Heap}
/-- THE RULE for a def over shared arguments: its body walked -/
theorem fnP {x qual : Str} {st : Stmt} {f : Addr} {fd : FuncData} {N ps : List Str} {k : Nat} {A R : Type} {sl : A → Env} {SR : Stor R} {m : A → Option R} (F : Fun K x qual st f fd) (S : FnScope N ps (defScope st)) (n : Nat) (hn : N.length - ps.length = n) (hl : ∀ a, (sl a).length = ps.length)
    (hb : ∀ (cdv : Value) (A' : Around) (outer : List PySem.Env) (s : Shared) (H : Hp) (E : XK), Room k (A'.deeper (envOfC qual (defScope st) s.heap.objs.size f cdv)) → ∀ a : A,
      LB (cxOf CX0 P w K mg base N qual (defScope st) f cdv A' outer s H E).nox SR (fun _ : Unit => List.replicate (ps.length + n) .un) (fun (r : R) (_ : Unit) => some r) (noLp R) (noLp R) (sl a ++ List.replicate n .un) (defBody st) (fun z : Empty => z.elim) (fun _ => m a)) :
    FnOk P w K mg base CX0 (k + 1) f fd ps (spP K sl SR m) := by
  have hlen : ∀ vs H Q E, spP K sl SR m vs H Q E → vs.length = ps.length := fun vs H Q E h => by
    obtain ⟨B, F0, a, r, _, h2, _⟩ := h
    rw [List.length_map] at h2; rw [h2, hl a]
  refine F.ok S hlen fun cdv A' outer s H vs Q E hr h => ?_
  have hlv := hlen vs H Q E h
  obtain ⟨B, F0, a, r, hm, _, her, q⟩ := h
  refine ⟨_, pssC _, ?_⟩
  have hst : L2.start N vs = vs.map some ++ List.replicate n none := by unfold L2.start; rw [hlv, hn]
  rw [hst]
  refine hb cdv A' outer s H E hr a ⟨K, B, F0, H, []⟩ F0 H [] [] _ (fun z => z.elim) r { nx := fun _ H' => Q .non H', rt := Q } rfl rfl (her.padR n) hm (fun z => z.elim) (fun z => z.elim) (fun z => z.elim) ?_
  intro a' i v F' H' σ' e h'
  cases e
  exact q F' H' v h'.head
/-- .. that changes its first argument -/
theorem fnI {x qual : Str} {st : Stmt} {f : Addr} {fd : FuncData} {N ps : List Str} {k : Nat} {A T R : Type} {ST : Stor T} {sl : A → Env} {SR : Stor R} {m : T → A → Option (R × T)} (F : Fun K x qual st f fd) (S : FnScope N ps (defScope st)) (n : Nat) (hn : N.length - ps.length = n) (hl : ∀ a, (sl a).length + 1 = ps.length)
    (hb : ∀ (cdv : Value) (A' : Around) (outer : List PySem.Env) (s : Shared) (H : Hp) (E : XK), Room k (A'.deeper (envOfC qual (defScope st) s.heap.objs.size f cdv)) → ∀ (v0 : V) (t : T) (a : A),
      LB (cxOf CX0 P w K mg base N qual (defScope st) f cdv A' outer s H E).nox SR (fun t' : T => .st (some v0) T ST t' :: List.replicate (N.length - 1) .un) (fun (r : R) (t' : T) => some (r, t')) (noLp (R × T)) (noLp (R × T)) (.st (some v0) T ST t :: (sl a ++ List.replicate n .un)) (defBody st) (fun z : Empty => z.elim) (fun _ => m t a)) :
    FnOk P w K mg base CX0 (k + 1) f fd ps (spI K ST sl SR m) := by
  have hlen : ∀ vs H Q E, spI K ST sl SR m vs H Q E → vs.length = ps.length := fun vs H Q E h => by
    obtain ⟨B, F0, io, t, a, r, t', v0, vs', rfl, _, h2, _⟩ := h
    rw [List.length_map] at h2; rw [List.length_cons, h2, hl a]
  refine F.ok S hlen fun cdv A' outer s H vs Q E hr h => ?_
  have hlv := hlen vs H Q E h
  obtain ⟨B, F0, io, t, a, r, t', v0, vs', rfl, hm, _, her, q⟩ := h
  refine ⟨_, pssC _, ?_⟩
  have hst : L2.start N (v0 :: vs') = (v0 :: vs').map some ++ List.replicate n none := by unfold L2.start; rw [hlv, hn]
  rw [hst]
  refine hb cdv A' outer s H E hr v0 t a ⟨K, B, F0, H, io⟩ F0 H [] [] _ (fun z => z.elim) (r, t') { nx := fun _ H' => Q .non H', rt := Q } rfl rfl (her.padR n) hm (fun z => z.elim) (fun z => z.elim) (fun z => z.elim) ?_
  intro a' i v F' H' σ' e h'
  cases e
  have hls : σ'.length = N.length - 1 + 1 := by have := h'.len; simpa using this
  cases σ' with
  | nil => simp at hls
  | cons o σ' =>
    have h3 : ER ⟨K, B, F0, H, io⟩ F' H' (some v :: o :: σ') (.st none R SR r :: .st (some v0) T ST t' :: List.replicate (N.length - 1) .un) := h'
    have ho : o = some v0 := by
      obtain ⟨fp, qq⟩ := h3.sl
      obtain ⟨v', e1, _, e2⟩ := qq.ok 1 _ rfl
      simp at e1
      rw [e1, e2.1]
    subst ho
    exact q F' H' v h3.head2
end
section
variable {X : Cx} {Ω : Type} {env : Env} {nm : Str} {pos np : Pos} {e : Expr} {xs : List Expr} {Pt A R T : Type} {SR : Stor R} {ST : Stor T} {e' : Pt → Env} {sl : A → Env} {k : Nat} {f : Addr} {fd : FuncData} {ps : List Str}
/-- f(..) -/
theorem lx_call {m : A → Option R} {fa : (A → Pt → Option Ω) → Option Ω} (Fn : FnOk X.prog X.w X.K X.mg X.base CX0 k f fd ps (spP X.K sl SR m)) (hr : Room k X.A) (hm : X.mg nm = some (.ref f)) (hk : PySem.W.keepIn X.K (.ref f) = true) (hb : Binds X.K fd ps []) (sh : ∀ a, ShE (sl a))
    (ha : LA X env (e :: xs) sl e' fa) (hg : Gl X nm := by rfl) (hdb : (nm == ("__debug__" : Str)) = false := by decide) (he : starEach (e :: xs) X.env = (false, eval e X.env) :: starEach xs X.env := by rfl) (hpl : (backTo pos (starEach xs X.env)).any (·.1) = false := by rfl) :
    LX X env (.Call (.Name nm np) (e :: xs) [] pos) SR e' (fun k => fa fun a p => (m a).bind fun r => k r p) :=
  fun C F H σs es σ k ω Q hK hl h hk' q => tE.of X (pe_call Fn hr hg hm hk hb .nil pass0 (paC X) hdb he hpl) (ha C F H σs es σ _ ω _ hK hl h hk' fun a p vs F' H' hk2 hlv h' => by
    obtain ⟨r, hm', hk2⟩ := bind_some hk2
    show spP X.K sl SR m (vs ++ []) H' Q _
    rw [List.append_nil, ← hK]
    exact ⟨H', F', a, r, hm', hlv, h'.enter hlv (sh a), fun F2 H2 v h2 => by
      obtain ⟨F3, h3⟩ := (h'.popN hlv).back h2
      exact q r p v F3 H2 hk2 h3⟩)
theorem lx_call0 {m : Unit → Option R} (Fn : FnOk X.prog X.w X.K X.mg X.base CX0 k f fd ps (spP X.K (fun _ : Unit => []) SR m)) (hr : Room k X.A) (hm : X.mg nm = some (.ref f)) (hk : PySem.W.keepIn X.K (.ref f) = true) (hb : Binds X.K fd ps [])
    (hg : Gl X nm := by rfl) (hdb : (nm == ("__debug__" : Str)) = false := by decide) :
    LX X env (.Call (.Name nm np) [] [] pos) SR (fun _ : Unit => env) (fun (k : R → Unit → Option Ω) => (m ()).bind fun r => k r ()) :=
  fun C F H σs es σ k ω Q hK hl h hk' q => tE.of X (pe_call0 Fn hr hg hm hk hb .nil pass0 hdb) (by
    obtain ⟨r, hm', hk2⟩ := bind_some hk'
    show spP X.K _ SR m [] H Q E0
    rw [← hK]
    refine ⟨H, F, (), r, hm', rfl, ER.enter (σa := []) (ea := []) h rfl .nil, fun F2 H2 v h2 => ?_⟩
    obtain ⟨F3, h3⟩ := h.back h2
    exact q r () v F3 H2 hk2 h3)
/-- into a def that changes the object of slot i -/
theorem ER.enterI {C : Ck} {F H : Hp} {σ : List (Option V)} {env : Env} {w : Option V} {t : T} {v0 : V} {i : Nat} {σa : List (Option V)} {ea : Env} (h : ER C F H (σa ++ σ) (ea ++ env)) (hl : σa.length = ea.length) (sh : ShE ea) (hi : env[i]? = some (.st w T ST t)) (hv : σ[i]? = some (some v0)) :
    ∃ B io, ER ⟨C.K, B, F, H, io⟩ F H (some v0 :: σa) (.st (some v0) T ST t :: ea) ∧ ∀ (R : Type) (SR : Stor R) (r : R) (t' : T) (F' H' : Hp) (v : V), ER ⟨C.K, B, F, H, io⟩ F' H' [some v, some v0] [.st none R SR r, .st (some v0) T ST t'] →
      ∃ F'', ER C F'' H' (some v :: σ) (.st none R SR r :: env.set i (.st w T ST t')) := by
  have h0 : ER C F H σ env := h.popN hl
  obtain ⟨fp, q⟩ := h0.sl
  have hil := lt_of_get hi
  obtain ⟨v', e1, rr, kk⟩ := q.ok i _ hi
  rw [hv] at e1
  simp at e1; subst e1
  have he := h.enter hl sh
  obtain ⟨fe, qe⟩ := he.sl
  refine ⟨fun a => if a ∈ fp i then none else H a, fp i, ⟨fun a o e => ?_, h0.sF, fun a m => .inl m, fun a m => m, by simp [hl], _, Fps.push (fp := fun _ => []) ⟨fun j s e => ?_, fun j hj a ha => (nomatch ha), fun j l _ _ a ha => (nomatch ha), fun j _ => List.nodup_nil⟩ (fq := fp i) ⟨v0, rfl, rr, rfl, fun a m => .inr m⟩ (fun a m => ⟨if_pos m, (q.own i hil a m).2⟩) (q.nd i hil) fun j _ a ha => (nomatch ha)⟩, ?_⟩
  · have e : (if a ∈ fp i then none else H a) = some o := e
    by_cases m : a ∈ fp i
    · rw [if_pos m] at e; cases e
    · rw [if_neg m] at e; exact e
  · obtain ⟨τ, S, x, rfl, cp⟩ := sh.slot j s e
    obtain ⟨v, e1, r, _⟩ := qe.ok j _ e
    have z := cp.nil r
    rw [z] at r
    exact ⟨v, e1, r, fun _ m => nomatch m⟩
  · intro R SR r t' F' H' v hc
    have bk : ∀ a, H a ≠ none → a ∉ fp i → H' a = H a := fun a m n => by
      cases e : H a with
      | none => exact absurd e m
      | some o => exact hc.sB a o (by show (if a ∈ fp i then none else H a) = _; rw [if_neg n]; exact e)
    have fn : ∀ a, F a ≠ none → a ∉ fp i := fun a m z => m (q.own i hil a z).2.1
    have bn : ∀ a, C.B a ≠ none → a ∉ fp i := fun a m z => m (q.own i hil a z).1
    have sFH : Same F H' := fun a o e => by
      have m : F a ≠ none := by rw [e]; exact fun z => by cases z
      rw [bk a (same_some h0.sF m) (fn a m)]; exact h0.sF a o e
    have up' : ∀ a, H a ≠ none → H' a ≠ none := fun a m => hc.up a m
    obtain ⟨fc, qc⟩ := hc.sl
    obtain ⟨v1, ev1, r1, n1⟩ := qc.ok 0 _ rfl
    obtain ⟨v2, ev2, r2, n2⟩ := qc.ok 1 _ rfl
    simp at ev1 ev2; subst ev1; subst ev2
    have l0 : 0 < ([.st none R SR r, .st (some v0) T ST t'] : Env).length := by simp
    have l1 : 1 < ([.st none R SR r, .st (some v0) T ST t'] : Env).length := by simp
    have i1 : ∀ a ∈ fc 1, H a = none ∨ a ∈ fp i := n2.2
    have sep01 : ∀ a ∈ fc 0, a ∉ fc 1 := fun a m z => by have := qc.sep 0 1 l0 l1 a m z; omega
    have fnn : ∀ a, (H a = none ∨ a ∈ fp i) → F a = none := fun a m => by
      rcases m with m | m
      · exact h0.fnone m
      · exact (q.own i hil a m).2.1
    have bnn : ∀ a, (H a = none ∨ a ∈ fp i) → C.B a = none := fun a m => by
      rcases m with m | m
      · exact h0.bnone m
      · exact (q.own i hil a m).1
    have jH : ∀ j, j < env.length → j ≠ i → ∀ a ∈ fp j, ¬ (H a = none ∨ a ∈ fp i) := fun j hj ne a ha z => by
      rcases z with z | z
      · exact (q.own j hj a ha).2.2 z
      · exact ne (q.sep j i hj hil a ha z)
    refine ⟨hun F F', fun a o e => ?_, hun_same sFH hc.sF, fun a m => ?_, fun a m => up' a (h0.up a m), by simp [h0.len], _, Fps.push (fp := fun j => if j = i then fc 1 else fp j) ⟨fun j s ej => ?_, fun j hj a ha => ?_, fun j l hj hl a ha hb => ?_, fun j hj => ?_⟩ (fq := fc 0) ⟨v, rfl, SR.monoF (same_hunR sFH hc.sF) r1, fun a m => h0.hnone (n1 a m)⟩ (fun a m => ?_) (qc.nd 0 l0) fun j hj a ha m => ?_⟩
    · have m : C.B a ≠ none := by rw [e]; exact fun z => by cases z
      rw [bk a (same_some h0.sB m) (bn a m)]; exact h0.sB a o e
    · rcases hun_some m with z | z
      · exact h0.gr a z
      · rcases hc.gr a z with y | y
        · exact h0.gr a y
        · exact .inr (h0.hnone y)
    · by_cases z : j = i
      · subst z
        rw [List.getElem?_set_self hil] at ej
        cases ej
        simp only [if_pos]
        refine ⟨v0, by rw [hv]; rfl, ST.monoF (same_hunR sFH hc.sF) r2, ?_⟩
        cases w with
        | none =>
          intro a ha
          rcases i1 a ha with m | m
          · exact h0.hnone m
          · exact kk a m
        | some w0 =>
          refine ⟨kk.1, fun a ha => ?_⟩
          rcases i1 a ha with m | m
          · exact .inl (h0.hnone m)
          · exact kk.2 a m
      · rw [List.getElem?_set_ne (fun y => z y.symm)] at ej
        have hj := lt_of_get ej
        simp only [if_neg z]
        exact (q.ok j s ej).go same_hunL (fun a m => bk a (same_some h0.sB m) (bn a m)) fun a ha => bk a (q.own j hj a ha).2.2 fun y => jH j hj z a ha (.inr y)
    · have hj' : j < env.length := by simpa using hj
      by_cases z : j = i
      · simp only [if_pos z] at ha
        exact ⟨bnn a (i1 a ha), hun_none (fnn a (i1 a ha)) (qc.own 1 l1 a ha).2.1, (qc.own 1 l1 a ha).2.2⟩
      · simp only [if_neg z] at ha
        obtain ⟨b, f, c⟩ := q.own j hj' a ha
        refine ⟨b, hun_none f ?_, up' a c⟩
        cases e : F' a with
        | none => rfl
        | some o =>
          rcases hc.gr a (by rw [e]; exact fun z => by cases z) with y | y
          · exact absurd f y
          · exact absurd y c
    · have hj' : j < env.length := by simpa using hj
      have hl' : l < env.length := by simpa using hl
      by_cases zj : j = i
      · by_cases zl : l = i
        · rw [zj, zl]
        · simp only [if_pos zj] at ha
          simp only [if_neg zl] at hb
          exact absurd (i1 a ha) (jH l hl' zl a hb)
      · simp only [if_neg zj] at ha
        by_cases zl : l = i
        · simp only [if_pos zl] at hb
          exact absurd (i1 a hb) (jH j hj' zj a ha)
        · simp only [if_neg zl] at hb
          exact q.sep j l hj' hl' a ha hb
    · have hj' : j < env.length := by simpa using hj
      by_cases z : j = i
      · simp only [if_pos z]; exact qc.nd 1 l1
      · simp only [if_neg z]; exact q.nd j hj'
    · have := n1 a m
      exact ⟨h0.bnone this, hun_none (h0.fnone this) (qc.own 0 l0 a m).2.1, (qc.own 0 l0 a m).2.2⟩
    · have hj' : j < env.length := by simpa using hj
      by_cases z : j = i
      · simp only [if_pos z] at ha
        exact sep01 a m ha
      · simp only [if_neg z] at ha
        exact (q.own j hj' a ha).2.2 (n1 a m)
/-- f(x, ..), f changes x's object -/
theorem lx_callI {w : Option V} {t0 : T} {t : Pt → T} {m : T → A → Option (R × T)} {fa : (A → Pt → Option Ω) → Option Ω} {vn : Str} {vp : Pos} (i : Nat) (Fn : FnOk X.prog X.w X.K X.mg X.base CX0 k f fd ps (spI X.K ST sl SR m)) (hr : Room k X.A) (hm : X.mg nm = some (.ref f)) (hk : PySem.W.keepIn X.K (.ref f) = true) (hb : Binds X.K fd ps []) (sh : ∀ a, ShE (sl a))
    (h0 : env[i]? = some (.st w T ST t0)) (ha : LA X env xs sl e' fa) (h1 : ∀ p, (e' p)[i]? = some (.st w T ST (t p))) (hN : X.N[i]? = some vn := by rfl) (hv : Vis X.env.scope vn := by first | exact Or.inl rfl | exact Or.inr (Or.inl rfl) | exact Or.inr (Or.inr rfl)) (hd : (vn == ("__debug__" : Str)) = false := by decide) (hcd : (vn == ("__classdict__" : Str)) = false := by decide)
    (hg : Gl X nm := by rfl) (hdb : (nm == ("__debug__" : Str)) = false := by decide) (he : starEach (Expr.Name vn vp :: xs) X.env = (false, eval (Expr.Name vn vp) X.env) :: starEach xs X.env := by rfl) (hpl : (backTo pos (starEach xs X.env)).any (·.1) = false := by rfl) :
    LX X env (.Call (.Name nm np) (.Name vn vp :: xs) [] pos) SR (fun p : Pt × T => (e' p.1).set i (.st w T ST p.2)) (fun k => fa fun a p => (m (t p) a).bind fun r => k r.1 (p, r.2)) :=
  fun C F H σs es σ k ω Q hK hl h hk' q => tE.of X (pe_call Fn hr hg hm hk hb .nil pass0 (paC X) hdb he hpl) (la_lend i h0 hN hv ha hd hcd he C F H σs es σ _ ω _ hK hl h hk' fun a p v0 vs F' H' hk2 hv0 hlv h' => by
    obtain ⟨⟨r, t'⟩, hm', hk2⟩ := bind_some hk2
    show spI X.K ST sl SR m (v0 :: vs ++ []) H' Q _
    rw [List.append_nil, ← hK]
    have h2 : ER C F' H' (vs.map some ++ (σs ++ σ)) (sl a ++ (es ++ e' p)) := h'
    obtain ⟨B, io, g1, g2⟩ := h2.enterI (i := es.length + i) (v0 := v0) hlv (sh a) (by rw [at_app _ rfl]; exact h1 p) (by rw [at_app _ hl]; exact hv0)
    refine ⟨B, F', io, t p, a, r, t', v0, vs, rfl, hm', hlv, g1, fun F2 H2 v h3 => ?_⟩
    obtain ⟨F3, h4⟩ := g2 R SR r t' F2 H2 v h3
    rw [List.set_append_right _ _ (Nat.le_add_right _ _), Nat.add_sub_cancel_left] at h4
    exact q r (p, t') v F3 H2 hk2 h4)
end
end Z

set_option Elab.async false
set_option linter.all false
set_option maxRecDepth 100000
namespace Z
open PySem PySem.Spec PyProof.Rows L2

/-! ### comprehensions -/
def compO {α β S Ω : Type} : List α → S → (α → S → (Option β → S → Option Ω) → Option Ω) → List β → (List β → S → Option Ω) → Option Ω
  | [], s, _, acc, k => k acc s
  | x :: xs, s, b, acc, k => b x s fun o s' => match o with
    | some y => ck (decide (acc.length < SZ)) (compO xs s' b (acc ++ [y]) k)
    | none => compO xs s' b acc k
section
variable {C : Ck} {F F' H H' : Hp} {σ σ' σs : List (Option V)} {env es : Env}
theorem ER.like (h : ER C F H (σs ++ σ) (es ++ env)) (hl : σs.length = es.length) (hl2 : σ'.length = σ.length) (he : ∀ (j : Nat) (s : Slot), env[j]? = some s → s = Slot.un ∨ σ'[j]? = σ[j]?) : ER C F H (σs ++ σ') (es ++ env) := by
  have hls := h.lenF hl
  refine h.perm (by simp [hl, hl2, hls]) id fun j s' e => ?_
  by_cases z : j < es.length
  · exact .inr ⟨e, by rw [id, List.getElem?_append_left (by omega), List.getElem?_append_left (by omega)], fun l _ _ _ y => y⟩
  · obtain ⟨m, rfl⟩ : ∃ m, j = es.length + m := ⟨j - es.length, by omega⟩
    have e' := e
    rw [at_app _ rfl] at e'
    rcases he m s' e' with y | y
    · exact .inl y
    · exact .inr ⟨e, by rw [id, at_app _ hl, at_app _ hl, y], fun l _ _ _ y => y⟩
end
section
variable (X : Cx) {Ω : Type}
def tTl (ifs : List Expr) : TT := fun σ H Q => ∀ pins s, Inv X pins σ H s → wpAny (model X.prog X.w) X.A (forIn ifs true fun c r => if r = true then do let ok ← isTrue c X.env (eval c X.env); pure (ForInStep.yield ok) else pure (ForInStep.yield r)) (TP X pins σ Q) X.xe s
theorem ptsC {ifs : List Expr} : PTs X ifs (tTl X ifs) := ⟨fun pins s σ H Q I h => h pins s I⟩
theorem tTl.of {ifs : List Expr} {t : TT} {σ : L2.St} {H : Hp} {Q : Bool → Hp → Prop} (h : PTs X ifs t) (q : t σ H Q) : tTl X ifs σ H Q := fun pins s I => h.run pins s σ H Q I q
/-- the tests of a comprehension -/
def LTl (env : Env) (ifs : List Expr) {P : Type} (env' : P → Env) (f : (Bool → P → Option Ω) → Option Ω) : Prop :=
  ∀ (C : Ck) (F H : Hp) (σs : List (Option V)) (es : Env) (σ : List (Option V)) (k : Bool → P → Option Ω) (ω : Ω) (Q : Bool → Hp → Prop), C.K = X.K → σs.length = es.length → ER C F H (σs ++ σ) (es ++ env) → f k = some ω →
    (∀ a p F' H', k a p = some ω → ER C F' H' (σs ++ σ) (es ++ env' p) → Q a H') → tTl X ifs σ H Q
end
/-- the contexts of a block's turns -/
structure Blk (X : Cx) (scope : Scope) (Y : Cx) : Prop where
  is : ∃ (s : Shared) (H : Hp) (C : Addr) (cl : List (Str × Addr)) (fp : List Addr), Y = X.blk s H scope (compEnvC scope cl C X.env) fp
section
variable {X : Cx} {Ω : Type} {env : Env} {nm : Str} {pos spos np : Pos} {a b c e elt tg iter : Expr} {ifs : List Expr} {P P1 P2 T : Type} {τ τ1 τ2 α β : Type} {S : Stor τ} {Sa : Stor α} {Sb : Stor β} {E : Enc τ} {e' : P → Env} {scope : Scope} {own : List (Str × Nat)} {ix : List Nat}
theorem ltl_nil : LTl X env [] (fun _ : Unit => env) (fun (k : Bool → Unit → Option Ω) => k true ()) :=
  fun C F H σs es σ k ω Q hK hl hr hk q => tTl.of X pts_nil (q true () F H hk hr)
theorem ltl_one {f : (Bool → P → Option Ω) → Option Ω} (h : LT X env c e' f) : LTl X env [c] e' f :=
  fun C F H σs es σ k ω Q hK hl hr hk q => tTl.of X (pts_one (ptC X)) (h C F H σs es σ k ω Q hK hl hr hk q)
theorem lc_run {envT : T → Env} {envX : T → α → Env} {eT : T → α → P1 → Env} {eE : T → α → P1 → P2 → Env} {f : (List α → P → Option Ω) → Option Ω} {ft : T → α → (Bool → P1 → Option Ω) → Option Ω} {fe : T → α → P1 → (β → P2 → Option Ω) → Option Ω}
    (hi : LI X env tg iter Sa e' f) (s0 : P → T) (h0 : ∀ p, Sub (e' p) (envT (s0 p))) (hu : ∀ (t : T) (i : Nat) (s : Slot), i ∈ own.map (·.2) → (envT t)[i]? = some s → s = Slot.un)
    (hg : ∀ Y, Blk X scope Y → ∀ t, LG Y (own.map (·.2)) (envT t) tg Sa (envX t)) (ht : ∀ Y, Blk X scope Y → ∀ t x, LTl Y (envX t x) ifs (eT t x) (ft t x)) (he : ∀ Y, Blk X scope Y → ∀ t x p, LX Y (eT t x p) elt Sb (eE t x p) (fe t x p))
    (tn : T → α → P1 → P2 → T) (hn : ∀ t x p q, Sub (eE t x p q) (envT (tn t x p q))) (tf : T → α → P1 → T) (hf : ∀ t x p, Sub (eT t x p) (envT (tf t x p)))
    {C : Ck} {F H : Hp} {σs : List (Option V)} {es : Env} {σ : List (Option V)} {k : List β → T → Option Ω} {ω : Ω} {Q : VK} (hK : C.K = X.K) (hl : σs.length = es.length) (h : ER C F H (σs ++ σ) (es ++ env))
    (hk : (f fun xs p => compO xs (s0 p) (fun x t kc => ft t x fun b p1 => if b = true then fe t x p1 fun y p2 => kc (some y) (tn t x p1 p2) else kc none (tf t x p1)) [] k) = some ω)
    (q : ∀ ys t v F' H', k ys t = some ω → ER C F' H' (some v :: (σs ++ σ)) (.st none (List β) (ls Sb) ys :: (es ++ envT t)) → Q v H') :
    tLc (tI X tg iter) (fun v σ H Q => ∀ Y, Blk X scope Y → tG Y tg v σ H Q) (fun σ H Q => ∀ Y, Blk X scope Y → tTl Y ifs σ H Q) (fun σ H Q => ∀ Y, Blk X scope Y → tE Y elt σ H Q) (own.map (·.2)) σ H Q := by
  refine hi C F H σs es σ _ ω _ hK hl h hk fun xs p Jt F' H' σx ex hk' h' hy => ?_
  intro D nD
  have like : ∀ {F2 H2 σp ep t}, σp.length = ep.length → ER C F2 H2 (σp ++ (σx ++ (σs ++ σ))) (ep ++ (ex ++ (es ++ envT t))) → ER C F2 H2 (σp ++ (σx ++ (σs ++ wipe σ (own.map (·.2))))) (ep ++ (ex ++ (es ++ envT t))) := fun {F2 H2 σp ep t} hlp h2 => by
    have h3 : ER C F2 H2 ((σp ++ σx ++ σs) ++ σ) ((ep ++ ex ++ es) ++ envT t) := by simpa [List.append_assoc] using h2
    have := h3.like (σ' := wipe σ (own.map (·.2))) (by simp [hlp, hl, hy.len]) (wipe_length _ _) fun j s e => by
      by_cases m : j ∈ own.map (·.2)
      · exact .inl (hu t j s m e)
      · refine .inr ?_
        rw [wipe_get, if_neg m]
    simpa [List.append_assoc] using this
  have unlike : ∀ {F2 H2 σp ep t σ4}, σp.length = ep.length → σ4.length = σ.length → wipe σ4 (own.map (·.2)) = wipe σ (own.map (·.2)) → ER C F2 H2 (σp ++ (σx ++ (σs ++ σ4))) (ep ++ (ex ++ (es ++ envT t))) → ER C F2 H2 (σp ++ (σx ++ (σs ++ σ))) (ep ++ (ex ++ (es ++ envT t))) := fun {F2 H2 σp ep t σ4} hlp hl4 hw h2 => by
    have h3 : ER C F2 H2 ((σp ++ σx ++ σs) ++ σ4) ((ep ++ ex ++ es) ++ envT t) := by simpa [List.append_assoc] using h2
    have := h3.like (σ' := σ) (by simp [hlp, hl, hy.len]) hl4.symm fun j s e => by
      by_cases m : j ∈ own.map (·.2)
      · exact .inl (hu t j s m e)
      · refine .inr ?_
        have := congrArg (fun l => l[j]?) hw
        simp only [wipe_get, if_neg m] at this
        exact this.symm
    simpa [List.append_assoc] using this
  have hnew : ER C F' (upd H' D (.lst [])) (some (.ref D) :: (σx ++ (σs ++ σ))) (.st none (List β) (ls Sb) [] :: (ex ++ (es ++ e' p))) := h'.newOw nD ⟨D, [], [], rfl, upd_same, .nil, rfl⟩
  refine ⟨fun i m H2 => m = xs.length - i ∧ i ≤ xs.length ∧ ∃ acc t F2, ER C F2 H2 (some (.ref D) :: (σx ++ (σs ++ σ))) (.st none (List β) (ls Sb) acc :: (ex ++ (es ++ envT t))) ∧
    compO (xs.drop i) t (fun x t kc => ft t x fun b p1 => if b = true then fe t x p1 fun y p2 => kc (some y) (tn t x p1 p2) else kc none (tf t x p1)) acc k = some ω,
    ⟨xs.length, by simp, Nat.zero_le _, [], s0 p, F', ER.sub hnew (.keep (((h0 p).pre es).pre ex)), by simpa using hk'⟩, ?_⟩
  rintro i m H2 ⟨rfl, hi', acc, t, F2, h2, hk2⟩
  obtain ⟨y1, y2⟩ := hy.go i F2 H2 [some (.ref D)] (σs ++ σ) [.st none (List β) (ls Sb) acc] (es ++ envT t) rfl h2
  by_cases hlt : i < xs.length
  · have ex1 : xs[i]? = some xs[i] := List.getElem?_eq_getElem hlt
    obtain ⟨g1, g2⟩ := y1 _ ex1
    have ed : xs.drop i = xs[i] :: xs.drop (i + 1) := List.drop_eq_getElem_cons hlt
    rw [ed] at hk2
    refine .inr ⟨g1, fun H3 => ∃ acc t F3, ER C F3 H3 (some (.ref D) :: (σx ++ (σs ++ σ))) (.st none (List β) (ls Sb) acc :: (ex ++ (es ++ envT t))) ∧
      compO (xs.drop (i + 1)) t (fun x t kc => ft t x fun b p1 => if b = true then fe t x p1 fun y p2 => kc (some y) (tn t x p1 p2) else kc none (tf t x p1)) acc k = some ω,
      fun H3 ⟨acc3, t3, F3, h3, hk3⟩ => ⟨xs.length - (i + 1), by omega, rfl, hlt, acc3, t3, F3, h3, hk3⟩, fun v H3 hv Y bY => ?_⟩
    have YK : C.K = Y.K := by obtain ⟨_, _, _, _, _, rfl⟩ := bY.is; exact hK
    obtain ⟨F3, h3⟩ := g2 v H3 hv
    have h3' := like (σp := [some v, some (.ref D)]) (ep := [.st none α Sa xs[i], .st none (List β) (ls Sb) acc]) rfl h3
    have lenp : ((some (.ref D) : Option V) :: (σx ++ σs)).length = ((.st none (List β) (ls Sb) acc : Slot) :: (ex ++ es)).length := by simp [hl, hy.len]
    refine hg Y bY t C F3 H3 (some (.ref D) :: (σx ++ σs)) (.st none (List β) (ls Sb) acc :: (ex ++ es)) (wipe σ (own.map (·.2))) v xs[i] _ YK lenp (by simpa [List.append_assoc] using h3') fun σ4 e4 h4 => ?_
    have hw : wipe σ4 (own.map (·.2)) = wipe (wipe σ (own.map (·.2))) (own.map (·.2)) := e4.wipe
    have hww : wipe (wipe σ (own.map (·.2))) (own.map (·.2)) = wipe σ (own.map (·.2)) := by
      apply List.ext_getElem?
      intro j
      rw [wipe_get, wipe_length, wipe_get]
      by_cases m : j ∈ own.map (·.2)
      · rw [if_pos m, if_pos m]
      · rw [if_neg m, if_neg m]
    have hl4 : σ4.length = σ.length := by rw [e4.1, wipe_length]
    refine ⟨hw.trans hww, fun Y bY => ?_⟩
    have YK : C.K = Y.K := by obtain ⟨_, _, _, _, _, rfl⟩ := bY.is; exact hK
    refine ht Y bY t xs[i] C F3 H3 (some (.ref D) :: (σx ++ σs)) (.st none (List β) (ls Sb) acc :: (ex ++ es)) σ4 _ ω _ YK lenp h4 hk2 fun bb p1 F5 H5 hk5 h5 => ?_
    cases bb with
    | false =>
      rw [if_neg Bool.false_ne_true] at hk5 ⊢
      refine ⟨acc, tf t xs[i] p1, F5, ?_, hk5⟩
      have h6 := ER.subF (σs := some (.ref D) :: (σx ++ σs)) h5 (hf t xs[i] p1)
      exact unlike (σp := [some (.ref D)]) (ep := [.st none (List β) (ls Sb) acc]) rfl hl4 (hw.trans hww) (by simpa [List.append_assoc] using h6)
    | true =>
      rw [if_pos rfl] at hk5 ⊢
      intro Y bY
      have YK : C.K = Y.K := by obtain ⟨_, _, _, _, _, rfl⟩ := bY.is; exact hK
      refine he Y bY t xs[i] p1 C F5 H5 (some (.ref D) :: (σx ++ σs)) (.st none (List β) (ls Sb) acc :: (ex ++ es)) σ4 _ ω _ YK lenp h5 hk5 fun y p2 u F6 H6 hk6 h6 => ?_
      have h7 : ER C F6 H6 (some u :: some (.ref D) :: (σx ++ (σs ++ σ4))) (.st none β Sb y :: .st none (List β) (ls Sb) acc :: (ex ++ (es ++ eE t xs[i] p1 p2))) := by simpa [List.append_assoc] using h6
      obtain ⟨hc, hk6⟩ := ck_some hk6
      obtain ⟨v', fp', v0, fq, e2, e3, r1, r2, nd, ow, fin⟩ := h7.absorb (i := 0) (w := none) (τ := List β) (S := ls Sb) (x := acc) rfl
      simp at e2 e3; subst e2; subst e3
      obtain ⟨q1, vs, fps, e4', hq, ra, rfl⟩ := r1
      cases e4'
      have hlen := ra.length
      have hc' := of_decide_eq_true hc
      refine ⟨vs, hq, by rw [SZ_eq]; omega, acc ++ [y], tn t xs[i] p1 p2, F6, ?_, hk6⟩
      have nm : D ∉ fps ++ fq := by
        have : (D :: (fps ++ fq)).Nodup := by simpa using nd
        exact (List.nodup_cons.mp this).1
      have fin' := fin (List β) (ls Sb) (acc ++ [y]) (upd H6 D (.lst (vs ++ [u]))) (D :: (fps ++ fq)) (fun a na _ => upd_ne fun z => na (by rw [z]; simp)) (fun a m => by
        by_cases z : a = D
        · subst z; rw [upd_same]; exact fun z => by cases z
        · rw [upd_ne z]; exact m) ⟨D, vs ++ [u], fps ++ fq, rfl, upd_same, RelAll.imp (fun fr' v' x' s q => Sb.frame (fun a m => upd_ne fun z => nm (z ▸ s a m)) q) (ra.app r2), rfl⟩ (by simpa using nd) (fun a m => by
        refine ⟨?_, .inl (by simpa using m)⟩
        by_cases z : a = D
        · subst z; rw [upd_same]; exact fun z => by cases z
        · rw [upd_ne z]; exact (ow a (by simpa using m)).2.2)
      have h8 : ER C F6 (upd H6 D (.lst (vs ++ [u]))) ((some (.ref D) :: (σx ++ σs)) ++ σ4) ((.st none (List β) (ls Sb) (acc ++ [y]) :: (ex ++ es)) ++ eE t xs[i] p1 p2) := by simpa [List.append_assoc] using fin'
      have h9 := h8.subF (hn t xs[i] p1 p2)
      exact unlike (σp := [some (.ref D)]) (ep := [.st none (List β) (ls Sb) (acc ++ [y])]) rfl hl4 (hw.trans hww) (by simpa [List.append_assoc] using h9)
  · have e : i = xs.length := by omega
    subst e
    refine .inl ⟨y2 (by simp), q acc t (.ref D) F2 H2 (by simpa [compO] using hk2) ?_⟩
    have h3 : ER C F2 H2 (σx ++ some (.ref D) :: (σs ++ σ)) (ex ++ .st none (List β) (ls Sb) acc :: (es ++ envT t)) := ER.unrot h2 hy.len
    exact h3.popN hy.len
end
end Z

set_option Elab.async false
set_option linter.all false
set_option maxRecDepth 100000
namespace Z
open PySem PySem.Spec PyProof.Rows L2

section
variable {X : Cx} {Ω : Type} {env : Env} {nm : Str} {pos spos np : Pos} {a b c e elt tg iter : Expr} {ifs : List Expr} {P P1 P2 T : Type} {τ τ1 τ2 α β : Type} {S : Stor τ} {Sa : Stor α} {Sb : Stor β} {E : Enc τ} {e' : P → Env} {scope : Scope} {own : List (Str × Nat)} {ix : List Nat}
/-- [elt for tg in iter if ..] -/
theorem lx_lc {envT : T → Env} {envX : T → α → Env} {eT : T → α → P1 → Env} {eE : T → α → P1 → P2 → Env} {f : (List α → P → Option Ω) → Option Ω} {ft : T → α → (Bool → P1 → Option Ω) → Option Ω} {fe : T → α → P1 → (β → P2 → Option Ω) → Option Ω}
    (hc : X.calm = true) (hN : X.N.Nodup) (ok : BlkOk X.N X.env.scope scope own)
    (hi : LI X env tg iter Sa e' f) (s0 : P → T) (h0 : ∀ p, Sub (e' p) (envT (s0 p))) (hu : ∀ (t : T) (i : Nat) (s : Slot), i ∈ own.map (·.2) → (envT t)[i]? = some s → s = Slot.un)
    (hg : ∀ (s : Shared) (H : Hp) (C : Addr) (cl : List (Str × Addr)) (fp : List Addr) t, LG (X.blk s H scope (compEnvC scope cl C X.env) fp) (own.map (·.2)) (envT t) tg Sa (envX t)) (ht : ∀ (s : Shared) (H : Hp) (C : Addr) (cl : List (Str × Addr)) (fp : List Addr) t x, LTl (X.blk s H scope (compEnvC scope cl C X.env) fp) (envX t x) ifs (eT t x) (ft t x)) (he : ∀ (s : Shared) (H : Hp) (C : Addr) (cl : List (Str × Addr)) (fp : List Addr) t x p, LX (X.blk s H scope (compEnvC scope cl C X.env) fp) (eT t x p) elt Sb (eE t x p) (fe t x p))
    (tn : T → α → P1 → P2 → T) (hn : ∀ t x p q, Sub (eE t x p q) (envT (tn t x p q))) (tf : T → α → P1 → T) (hf : ∀ t x p, Sub (eT t x p) (envT (tf t x p)))
    (hs : ∀ x, foldedSetIterable iter X.env x = pure x := by intro _; rfl) :
    LX X env (.ListComp elt [⟨tg, iter, ifs, 0⟩] scope pos) (ls Sb) envT (fun k => f fun xs p => compO xs (s0 p) (fun x t kc => ft t x fun b p1 => if b = true then fe t x p1 fun y p2 => kc (some y) (tn t x p1 p2) else kc none (tf t x p1)) [] k) :=
  fun C F H σs es σ k ω Q hK hl h hk q => tE.of X (pe_lc hc hN (piC X) ok (fun s H C cl fp => ⟨fun pins s' σ H' v u Q I r h => h _ ⟨s, H, C, cl, fp, rfl⟩ pins s' u I r⟩) (fun s H C cl fp => ⟨fun pins s' σ H' Q I h => h _ ⟨s, H, C, cl, fp, rfl⟩ pins s' I⟩) (fun s H C cl fp => ⟨fun pins s' σ H' Q I h => h _ ⟨s, H, C, cl, fp, rfl⟩ pins s' I⟩) hs)
    (lc_run hi s0 h0 hu (fun Y bY => by obtain ⟨s, H, C, cl, fp, rfl⟩ := bY.is; exact hg s H C cl fp) (fun Y bY => by obtain ⟨s, H, C, cl, fp, rfl⟩ := bY.is; exact ht s H C cl fp) (fun Y bY => by obtain ⟨s, H, C, cl, fp, rfl⟩ := bY.is; exact he s H C cl fp) tn hn tf hf hK hl h hk q)
/-- y = [..], y a local of the def, on one line -/
theorem lb_setLc {R I J : Type} {SR : Stor R} {envR : I → Env} {kr : R → I → Option Ω} {bk ct : Lp Ω} {rest : List Stmt} {envJ : J → Env} {fr : List β → T → (J → Option Ω) → Option Ω} {py : Pos}
    {envT : T → Env} {envX : T → α → Env} {eT : T → α → P1 → Env} {eE : T → α → P1 → P2 → Env} {f : (List α → P → Option Ω) → Option Ω} {ft : T → α → (Bool → P1 → Option Ω) → Option Ω} {fe : T → α → P1 → (β → P2 → Option Ω) → Option Ω}
    (hc : X.calm = true) (hN : X.N.Nodup) (ok : BlkOk X.N X.env.scope scope own) (i : Nat)
    (hi : LI X env tg iter Sa e' f) (s0 : P → T) (h0 : ∀ p, Sub (e' p) (envT (s0 p))) (hu : ∀ (t : T) (i : Nat) (s : Slot), i ∈ own.map (·.2) → (envT t)[i]? = some s → s = Slot.un)
    (hg : ∀ (s : Shared) (H : Hp) (C : Addr) (cl : List (Str × Addr)) (fp : List Addr) t, LG (X.blk s H scope (compEnvC scope cl C X.env) fp) (own.map (·.2)) (envT t) tg Sa (envX t)) (ht : ∀ (s : Shared) (H : Hp) (C : Addr) (cl : List (Str × Addr)) (fp : List Addr) t x, LTl (X.blk s H scope (compEnvC scope cl C X.env) fp) (envX t x) ifs (eT t x) (ft t x)) (he : ∀ (s : Shared) (H : Hp) (C : Addr) (cl : List (Str × Addr)) (fp : List Addr) t x p, LX (X.blk s H scope (compEnvC scope cl C X.env) fp) (eT t x p) elt Sb (eE t x p) (fe t x p))
    (tn : T → α → P1 → P2 → T) (hn : ∀ t x p q, Sub (eE t x p q) (envT (tn t x p q))) (tf : T → α → P1 → T) (hf : ∀ t x p, Sub (eT t x p) (envT (tf t x p)))
    (hr : ∀ ys t, LB X SR envR kr bk ct ((envT t).set i (.st none (List β) (ls Sb) ys)) rest envJ (fr ys t)) (hsw : swapsWith (.ListComp elt [⟨tg, iter, ifs, 0⟩] scope pos) (some (.Name nm py)) spos.line X.env = pure true) (hlt : ∀ t, i < (envT t).length := by exact (fun _ => Nat.lt_of_sub_eq_succ rfl)) (hy : X.N[i]? = some nm := by rfl) (hyl : X.env.scope.names.lookup nm = some .local := by rfl)
    (hs : ∀ x, foldedSetIterable iter X.env x = pure x := by intro _; rfl) :
    LB X SR envR kr bk ct env (.Assign [.Name nm py] (.ListComp elt [⟨tg, iter, ifs, 0⟩] scope pos) spos :: rest) envJ
      (fun kn => f fun xs p => compO xs (s0 p) (fun x t kc => ft t x fun b p1 => if b = true then fe t x p1 fun y p2 => kc (some y) (tn t x p1 p2) else kc none (tf t x p1)) [] fun ys t => fr ys t kn) :=
  fun C F H σs es σ kn ω D hK hl h hk qn qb qc qr => tSs.of X (pss_cons (ps_setLc (g := fun v σ H Q => ∀ Y, Blk X scope Y → tG Y tg v σ H Q) (tt := fun σ H Q => ∀ Y, Blk X scope Y → tTl Y ifs σ H Q) (te := fun σ H Q => ∀ Y, Blk X scope Y → tE Y elt σ H Q) hc hN hy hyl hsw (piC X) ok (fun s H C cl fp => ⟨fun pins s' σ H' v u Q I r h => h _ ⟨s, H, C, cl, fp, rfl⟩ pins s' u I r⟩) (fun s H C cl fp => ⟨fun pins s' σ H' Q I h => h _ ⟨s, H, C, cl, fp, rfl⟩ pins s' I⟩) (fun s H C cl fp => ⟨fun pins s' σ H' Q I h => h _ ⟨s, H, C, cl, fp, rfl⟩ pins s' I⟩) hs) (pssC X))
    (lc_run hi s0 h0 hu (fun Y bY => by obtain ⟨s, H, C, cl, fp, rfl⟩ := bY.is; exact hg s H C cl fp) (fun Y bY => by obtain ⟨s, H, C, cl, fp, rfl⟩ := bY.is; exact ht s H C cl fp) (fun Y bY => by obtain ⟨s, H, C, cl, fp, rfl⟩ := bY.is; exact he s H C cl fp) tn hn tf hf hK hl h hk fun ys t v F' H' hk' h' => hr ys t C F' H' σs es (σ.set i (some v)) kn ω D hK hl (h'.asg hl (hlt t)) hk' qn qb qc qr)

/-! ### built-ins over one thing -/
/-- f(e): what comes back is told by data -/
theorem lx_b1 {G : Env → Prop} {id : String} {r : List V → Hp → VK → Prop} {E : Enc β} {g : τ → Option β} {f : (τ → P → Option Ω) → Option Ω} (hcall : CallR X (.builtin id) r) (hm : X.mg nm = none) (hv : bootBuiltins nm = some (.builtin id)) (ha : LO X G env a S e' f) (hG : ∀ p, G (e' p))
    (hr : ∀ K F H fp v x y (Q : VK), K = X.K → Same F H → g x = some y → S.rel K F H fp v x → (∀ u, Rep K F u (E.enc y) → Q u H) → r [v] H Q)
    (hg : Gl X nm := by rfl) (hn : nm ≠ "__name__" := by decide) (hdb : (nm == ("__debug__" : Str)) = false := by decide) (he : starEach (a :: []) X.env = (false, eval a X.env) :: starEach [] X.env := by rfl) (hpl : (backTo pos (starEach [] X.env)).any (·.1) = false := by rfl) :
    LX X env (.Call (.Name nm np) [a] [] pos) (it E) e' (fun k => f fun x p => (g x).bind fun y => k y p) :=
  fun C F H σs es σ k ω Q hK hl h hk q => tE.of X (pe_callB hcall hg hm hv (pa_cons (peC X) pa_nil he) hn hdb he hpl) (lo_run ha hG hK hl h hk fun x p v F' H' fp hk' h' rr => by
    obtain ⟨y, hy, hk'⟩ := bind_some hk'
    exact hr C.K F' H' fp v x y Q hK h'.sF hy rr fun u hu => q y p u F' H' hk' (h'.pushSh hu))
/-- .. that always comes back -/
theorem lx_b1t {G : Env → Prop} {id : String} {r : List V → Hp → VK → Prop} {E : Enc β} {g : τ → β} {f : (τ → P → Option Ω) → Option Ω} (hcall : CallR X (.builtin id) r) (hm : X.mg nm = none) (hv : bootBuiltins nm = some (.builtin id)) (ha : LO X G env a S e' f) (hG : ∀ p, G (e' p))
    (hr : ∀ K F H fp v x (Q : VK), K = X.K → Same F H → S.rel K F H fp v x → (∀ u, Rep K F u (E.enc (g x)) → Q u H) → r [v] H Q)
    (hg : Gl X nm := by rfl) (hn : nm ≠ "__name__" := by decide) (hdb : (nm == ("__debug__" : Str)) = false := by decide) (he : starEach (a :: []) X.env = (false, eval a X.env) :: starEach [] X.env := by rfl) (hpl : (backTo pos (starEach [] X.env)).any (·.1) = false := by rfl) :
    LX X env (.Call (.Name nm np) [a] [] pos) (it E) e' (fun k => f fun x p => k (g x) p) :=
  fun C F H σs es σ k ω Q hK hl h hk q => tE.of X (pe_callB hcall hg hm hv (pa_cons (peC X) pa_nil he) hn hdb he hpl) (lo_run ha hG hK hl h hk fun x p v F' H' fp hk' h' rr =>
    hr C.K F' H' fp v x Q hK h'.sF rr fun u hu => q (g x) p u F' H' hk' (h'.pushSh hu))
/-- .. of a type -/
theorem lx_y1t {G : Env → Prop} {Ty : String} {r : List V → Hp → VK → Prop} {E : Enc β} {g : τ → β} {f : (τ → P → Option Ω) → Option Ω} (hcall : CallR X (.type Ty) r) (hm : X.mg nm = none) (hv : bootBuiltins nm = some (.type Ty)) (ha : LO X G env a S e' f) (hG : ∀ p, G (e' p))
    (hr : ∀ K F H fp v x (Q : VK), K = X.K → Same F H → S.rel K F H fp v x → (∀ u, Rep K F u (E.enc (g x)) → Q u H) → r [v] H Q)
    (hg : Gl X nm := by rfl) (hn : nm ≠ "__name__" := by decide) (hdb : (nm == ("__debug__" : Str)) = false := by decide) (he : starEach (a :: []) X.env = (false, eval a X.env) :: starEach [] X.env := by rfl) (hpl : (backTo pos (starEach [] X.env)).any (·.1) = false := by rfl) :
    LX X env (.Call (.Name nm np) [a] [] pos) (it E) e' (fun k => f fun x p => k (g x) p) :=
  fun C F H σs es σ k ω Q hK hl h hk q => tE.of X (pe_callTy hcall hg hm hv (pa_cons (peC X) pa_nil he) hn hdb he hpl) (lo_run ha hG hK hl h hk fun x p v F' H' fp hk' h' rr =>
    hr C.K F' H' fp v x Q hK h'.sF rr fun u hu => q (g x) p u F' H' hk' (h'.pushSh hu))
/-- .. that makes a new list of shared things -/
theorem lx_b1n {G : Env → Prop} {id : String} {r : List V → Hp → VK → Prop} {E : Enc β} {g : τ → Option (List β)} {f : (τ → P → Option Ω) → Option Ω} (hcall : CallR X (.builtin id) r) (hm : X.mg nm = none) (hv : bootBuiltins nm = some (.builtin id)) (ha : LO X G env a S e' f) (hG : ∀ p, G (e' p))
    (hr : ∀ K F H fp v x y (Q : VK), K = X.K → Same F H → g x = some y → S.rel K F H fp v x → (∀ t vs, H t = none → RepAll K F vs (y.map E.enc) → Q (.ref t) (upd H t (.lst vs))) → r [v] H Q)
    (hg : Gl X nm := by rfl) (hn : nm ≠ "__name__" := by decide) (hdb : (nm == ("__debug__" : Str)) = false := by decide) (he : starEach (a :: []) X.env = (false, eval a X.env) :: starEach [] X.env := by rfl) (hpl : (backTo pos (starEach [] X.env)).any (·.1) = false := by rfl) :
    LX X env (.Call (.Name nm np) [a] [] pos) (ls (it E)) e' (fun k => f fun x p => (g x).bind fun y => k y p) :=
  fun C F H σs es σ k ω Q hK hl h hk q => tE.of X (pe_callB hcall hg hm hv (pa_cons (peC X) pa_nil he) hn hdb he hpl) (lo_run ha hG hK hl h hk fun x p v F' H' fp hk' h' rr => by
    obtain ⟨y, hy, hk'⟩ := bind_some hk'
    exact hr C.K F' H' fp v x y Q hK h'.sF hy rr fun t vs nt hu => q y p (.ref t) F' _ hk' (h'.newOw nt ⟨t, vs, [], rfl, upd_same, hu.zero, rfl⟩))
theorem lx_y1n {G : Env → Prop} {Ty : String} {r : List V → Hp → VK → Prop} {E : Enc β} {g : τ → List β} {f : (τ → P → Option Ω) → Option Ω} (hcall : CallR X (.type Ty) r) (hm : X.mg nm = none) (hv : bootBuiltins nm = some (.type Ty)) (ha : LO X G env a S e' f) (hG : ∀ p, G (e' p))
    (hr : ∀ K F H fp v x (Q : VK), K = X.K → Same F H → S.rel K F H fp v x → (∀ t vs, H t = none → RepAll K F vs ((g x).map E.enc) → Q (.ref t) (upd H t (.lst vs))) → r [v] H Q)
    (hg : Gl X nm := by rfl) (hn : nm ≠ "__name__" := by decide) (hdb : (nm == ("__debug__" : Str)) = false := by decide) (he : starEach (a :: []) X.env = (false, eval a X.env) :: starEach [] X.env := by rfl) (hpl : (backTo pos (starEach [] X.env)).any (·.1) = false := by rfl) :
    LX X env (.Call (.Name nm np) [a] [] pos) (ls (it E)) e' (fun k => f fun x p => k (g x) p) :=
  fun C F H σs es σ k ω Q hK hl h hk q => tE.of X (pe_callTy hcall hg hm hv (pa_cons (peC X) pa_nil he) hn hdb he hpl) (lo_run ha hG hK hl h hk fun x p v F' H' fp hk' h' rr =>
    hr C.K F' H' fp v x Q hK h'.sF rr fun t vs nt hu => q (g x) p (.ref t) F' _ hk' (h'.newOw nt ⟨t, vs, [], rfl, upd_same, hu.zero, rfl⟩))
/-- f(a, b) of two ints -/
theorem lx_b2I {id : String} {r : List V → Hp → VK → Prop} {g : Int → Int → Int} {e1 : P1 → Env} {e2 : P1 → P2 → Env} {fa : (Int → P1 → Option Ω) → Option Ω} {fb : P1 → (Int → P2 → Option Ω) → Option Ω} (hcall : CallR X (.builtin id) r) (hr : ∀ i j H (Q : VK), Q (.int (g i j)) H → r [.int i, .int j] H Q) (hm : X.mg nm = none) (hv : bootBuiltins nm = some (.builtin id))
    (ha : LX X env a (it eI) e1 fa) (hb : ∀ p1, LX X (e1 p1) b (it eI) (e2 p1) (fb p1)) (hg : Gl X nm := by rfl) (hn : nm ≠ "__name__" := by decide) (hdb : (nm == ("__debug__" : Str)) = false := by decide)
    (he : starEach [a, b] X.env = (false, eval a X.env) :: starEach [b] X.env := by rfl) (he2 : starEach [b] X.env = (false, eval b X.env) :: starEach [] X.env := by rfl) (hpl : (backTo pos (starEach [b] X.env)).any (·.1) = false := by rfl) :
    LX X env (.Call (.Name nm np) [a, b] [] pos) (it eI) (fun p : P1 × P2 => e2 p.1 p.2) (fun k => fa fun x p1 => fb p1 fun y p2 => k (g x y) (p1, p2)) :=
  fun C F H σs es σ k ω Q hK hl h hk q => tE.of X (pe_callB hcall hg hm hv (pa_cons (peC X) (pa_cons (peC X) pa_nil he2) he) hn hdb he hpl) (op2_run (lo_of ha) (fun p1 => lo_of (hb p1)) (fun _ _ => trivial) (fun _ _ => trivial) hK hl h hk
    fun x p1 y p2 v u F' H' fp fq hk' h' r1 r2 => by
      obtain ⟨_, r1⟩ := r1
      obtain ⟨_, r2⟩ := r2
      cases r1; cases r2
      exact hr x y H' Q (q _ (p1, p2) _ F' H' hk' (h'.pushSh (.int _))))
section
variable {G : Env → Prop} {fI : (Int → P → Option Ω) → Option Ω} {f : (τ → P → Option Ω) → Option Ω} {g : τ → List α} {Ea : Enc α}
theorem lx_abs (hm : X.mg "abs" = none) (ha : LX X env a (it eI) e' fI) (hg : Gl X "abs" := by rfl) (he : starEach (a :: []) X.env = (false, eval a X.env) :: starEach [] X.env := by rfl) (hpl : (backTo pos (starEach [] X.env)).any (·.1) = false := by rfl) :
    LX X env (.Call (.Name "abs" np) [a] [] pos) (it eI) e' (fun k => fI fun x p => k (if x < 0 then -x else x) p) :=
  lx_b1t (E := eI) (g := fun x : Int => if x < 0 then -x else x) call_abs hm boot_abs (lo_of ha) (fun _ => trivial) (fun K F H fp v x Q _ _ r q => by obtain ⟨_, r⟩ := r; cases r; exact ⟨x, rfl, q _ (.int _)⟩) hg (by decide) (by decide) he hpl
theorem lx_int1 (hm : X.mg "int" = none) (ha : LX X env a (it eI) e' fI) (hg : Gl X "int" := by rfl) (he : starEach (a :: []) X.env = (false, eval a X.env) :: starEach [] X.env := by rfl) (hpl : (backTo pos (starEach [] X.env)).any (·.1) = false := by rfl) :
    LX X env (.Call (.Name "int" np) [a] [] pos) (it eI) e' (fun k => fI fun x p => k x p) :=
  lx_y1t (E := eI) (g := fun x : Int => x) call_int1 hm PyProof.Rows.boot_int (lo_of ha) (fun _ => trivial) (fun K F H fp v x Q _ _ r q => by obtain ⟨_, r⟩ := r; cases r; exact .inl ⟨x, rfl, q _ (.int _)⟩) hg (by decide) (by decide) he hpl
theorem lx_intB {fB : (Bool → P → Option Ω) → Option Ω} (hm : X.mg "int" = none) (ha : LX X env a (it eB) e' fB) (hg : Gl X "int" := by rfl) (he : starEach (a :: []) X.env = (false, eval a X.env) :: starEach [] X.env := by rfl) (hpl : (backTo pos (starEach [] X.env)).any (·.1) = false := by rfl) :
    LX X env (.Call (.Name "int" np) [a] [] pos) (it eI) e' (fun k => fB fun x p => k (if x = true then 1 else 0) p) :=
  lx_y1t (E := eI) (g := fun x : Bool => if x = true then (1 : Int) else 0) call_int1 hm PyProof.Rows.boot_int (lo_of ha) (fun _ => trivial) (fun K F H fp v x Q _ _ r q => by obtain ⟨_, r⟩ := r; cases r; exact .inr ⟨x, rfl, q _ (.int _)⟩) hg (by decide) (by decide) he hpl
theorem lx_max2 {e1 : P1 → Env} {e2 : P1 → P2 → Env} {fa : (Int → P1 → Option Ω) → Option Ω} {fb : P1 → (Int → P2 → Option Ω) → Option Ω} (hc : X.calm = true) (hm : X.mg "max" = none) (ha : LX X env a (it eI) e1 fa) (hb : ∀ p1, LX X (e1 p1) b (it eI) (e2 p1) (fb p1)) (hg : Gl X "max" := by rfl)
    (he : starEach [a, b] X.env = (false, eval a X.env) :: starEach [b] X.env := by rfl) (he2 : starEach [b] X.env = (false, eval b X.env) :: starEach [] X.env := by rfl) (hpl : (backTo pos (starEach [b] X.env)).any (·.1) = false := by rfl) :
    LX X env (.Call (.Name "max" np) [a, b] [] pos) (it eI) (fun p : P1 × P2 => e2 p.1 p.2) (fun k => fa fun x p1 => fb p1 fun y p2 => k (max x y) (p1, p2)) :=
  lx_b2I (call_max2 hc) (fun i j H Q q => ⟨i, j, rfl, by rw [show (if j > i then j else i) = max i j by omega]; exact q⟩) hm boot_max ha hb hg (by decide) (by decide) he he2 hpl
theorem lx_min2 {e1 : P1 → Env} {e2 : P1 → P2 → Env} {fa : (Int → P1 → Option Ω) → Option Ω} {fb : P1 → (Int → P2 → Option Ω) → Option Ω} (hc : X.calm = true) (hm : X.mg "min" = none) (ha : LX X env a (it eI) e1 fa) (hb : ∀ p1, LX X (e1 p1) b (it eI) (e2 p1) (fb p1)) (hg : Gl X "min" := by rfl)
    (he : starEach [a, b] X.env = (false, eval a X.env) :: starEach [b] X.env := by rfl) (he2 : starEach [b] X.env = (false, eval b X.env) :: starEach [] X.env := by rfl) (hpl : (backTo pos (starEach [b] X.env)).any (·.1) = false := by rfl) :
    LX X env (.Call (.Name "min" np) [a, b] [] pos) (it eI) (fun p : P1 × P2 => e2 p.1 p.2) (fun k => fa fun x p1 => fb p1 fun y p2 => k (min x y) (p1, p2)) :=
  lx_b2I (call_min2 hc) (fun i j H Q q => ⟨i, j, rfl, by rw [show (if j < i then j else i) = min i j by omega]; exact q⟩) hm boot_min ha hb hg (by decide) (by decide) he he2 hpl
theorem lx_len (hv : LVw S (it Ea) g) (hm : X.mg "len" = none) (ha : LO X G env a S e' f) (hG : ∀ p, G (e' p)) (hg : Gl X "len" := by rfl) (he : starEach (a :: []) X.env = (false, eval a X.env) :: starEach [] X.env := by rfl) (hpl : (backTo pos (starEach [] X.env)).any (·.1) = false := by rfl) :
    LX X env (.Call (.Name "len" np) [a] [] pos) (it eI) e' (fun k => f fun x p => k ((g x).length : Int) p) :=
  lx_b1t (E := eI) (g := fun x : τ => ((g x).length : Int)) call_len_seq hm PySem.boot_len ha hG (fun K F H fp v x Q hK s r q => by
    obtain ⟨p, vs, fps, rfl, h1, h2⟩ := hv.view s r
    have := h2.length
    exact ⟨p, vs, rfl, .inl (by rw [← hK]; exact h1), by rw [this]; exact q _ (.int _)⟩) hg (by decide) (by decide) he hpl
theorem lx_lenO {Sx : Stor α} (hv : LVw S Sx g) (hm : X.mg "len" = none) (ha : LO X G env a S e' f) (hG : ∀ p, G (e' p)) (hg : Gl X "len" := by rfl) (he : starEach (a :: []) X.env = (false, eval a X.env) :: starEach [] X.env := by rfl) (hpl : (backTo pos (starEach [] X.env)).any (·.1) = false := by rfl) :
    LX X env (.Call (.Name "len" np) [a] [] pos) (it eI) e' (fun k => f fun x p => k ((g x).length : Int) p) :=
  lx_b1t (E := eI) (g := fun x : τ => ((g x).length : Int)) call_len_seq hm PySem.boot_len ha hG (fun K F H fp v x Q hK s r q => by
    obtain ⟨p, vs, fps, rfl, h1, h2⟩ := hv.view s r
    have := h2.length
    exact ⟨p, vs, rfl, .inl (by rw [← hK]; exact h1), by rw [this]; exact q _ (.int _)⟩) hg (by decide) (by decide) he hpl
theorem lx_lenV (hv : TVw S (it Ea) g) (hm : X.mg "len" = none) (ha : LO X G env a S e' f) (hG : ∀ p, G (e' p)) (hg : Gl X "len" := by rfl) (he : starEach (a :: []) X.env = (false, eval a X.env) :: starEach [] X.env := by rfl) (hpl : (backTo pos (starEach [] X.env)).any (·.1) = false := by rfl) :
    LX X env (.Call (.Name "len" np) [a] [] pos) (it eI) e' (fun k => f fun x p => k ((g x).length : Int) p) :=
  lx_b1t (E := eI) (g := fun x : τ => ((g x).length : Int)) call_len_seq hm PySem.boot_len ha hG (fun K F H fp v x Q hK s r q => by
    obtain ⟨p, vs, fps, rfl, h1, h2⟩ := hv.view s r
    have := h2.length
    exact ⟨p, vs, rfl, .inr (by rw [← hK]; exact h1), by rw [this]; exact q _ (.int _)⟩) hg (by decide) (by decide) he hpl
theorem RepAll.ints {K : Fg} {F : Hp} : ∀ {vs : List V} {ns : List Int}, RepAll K F vs (ns.map eI.enc) → vs = ns.map V.int
  | [], [], _ => rfl
  | [], _ :: _, h => by cases h
  | _ :: _, [], h => by cases h
  | v :: vs, n :: ns, h => by
    cases h with
    | cons h1 h2 =>
      have h1' : Rep K F v (.int n) := h1
      cases h1'
      rw [RepAll.ints h2]; rfl
theorem RepAll.ofInts {K : Fg} {F : Hp} : ∀ (ns : List Int), RepAll K F (ns.map V.int) (ns.map eI.enc)
  | [] => .nil
  | n :: ns => .cons (.int n) (RepAll.ofInts ns)
theorem lx_sum {g : τ → List Int} (hc : X.calm = true) (hv : LVw S (it eI) g) (hm : X.mg "sum" = none) (ha : LO X G env a S e' f) (hG : ∀ p, G (e' p)) (hg : Gl X "sum" := by rfl) (he : starEach (a :: []) X.env = (false, eval a X.env) :: starEach [] X.env := by rfl) (hpl : (backTo pos (starEach [] X.env)).any (·.1) = false := by rfl) :
    LX X env (.Call (.Name "sum" np) [a] [] pos) (it eI) e' (fun k => f fun x p => k (g x).sum p) :=
  lx_b1t (E := eI) (g := fun x : τ => (g x).sum) (cr_sum hc) hm boot_sum ha hG (fun K F H fp v x Q hK s r q => by
    obtain ⟨p, vs, fps, rfl, h1, h2⟩ := hv.view s r
    have := h2.zero.2.ints
    subst this
    exact ⟨p, g x, rfl, by rw [← hK]; exact h1, q _ (.int _)⟩) hg (by decide) (by decide) he hpl
/-- the least, the greatest of a list of ints -/
def minI : List Int → Option Int
  | [] => none
  | x :: xs => some (xs.foldl min x)
def maxI : List Int → Option Int
  | [] => none
  | x :: xs => some (xs.foldl max x)
theorem foldl_min_le : ∀ (xs : List Int) (x : Int), xs.foldl min x ≤ x ∧ ∀ y ∈ xs, xs.foldl min x ≤ y
  | [], x => ⟨Int.le_refl x, fun _ m => nomatch m⟩
  | z :: xs, x => by
    obtain ⟨h1, h2⟩ := foldl_min_le xs (min x z)
    rw [List.foldl_cons]
    refine ⟨by omega, fun y m => ?_⟩
    rcases List.mem_cons.mp m with rfl | m
    · omega
    · exact h2 y m
theorem foldl_min_mem : ∀ (xs : List Int) (x : Int), xs.foldl min x = x ∨ xs.foldl min x ∈ xs
  | [], x => .inl rfl
  | z :: xs, x => by
    rw [List.foldl_cons]
    rcases foldl_min_mem xs (min x z) with h | h
    · by_cases c : x ≤ z
      · left; rw [h]; omega
      · right; rw [h, show min x z = z by omega]; exact List.mem_cons_self
    · exact .inr (List.mem_cons_of_mem _ h)
theorem foldl_max_le : ∀ (xs : List Int) (x : Int), x ≤ xs.foldl max x ∧ ∀ y ∈ xs, y ≤ xs.foldl max x
  | [], x => ⟨Int.le_refl x, fun _ m => nomatch m⟩
  | z :: xs, x => by
    obtain ⟨h1, h2⟩ := foldl_max_le xs (max x z)
    rw [List.foldl_cons]
    refine ⟨by omega, fun y m => ?_⟩
    rcases List.mem_cons.mp m with rfl | m
    · omega
    · exact h2 y m
theorem foldl_max_mem : ∀ (xs : List Int) (x : Int), xs.foldl max x = x ∨ xs.foldl max x ∈ xs
  | [], x => .inl rfl
  | z :: xs, x => by
    rw [List.foldl_cons]
    rcases foldl_max_mem xs (max x z) with h | h
    · by_cases c : z ≤ x
      · left; rw [h]; omega
      · right; rw [h, show max x z = z by omega]; exact List.mem_cons_self
    · exact .inr (List.mem_cons_of_mem _ h)
theorem minI_is {ns : List Int} {y m : Int} (h : minI ns = some y) (hm : m ∈ ns) (hle : ∀ z ∈ ns, m ≤ z) : m = y := by
  cases ns with
  | nil => cases h
  | cons x xs =>
    cases h
    obtain ⟨h1, h2⟩ := foldl_min_le xs x
    have a1 : xs.foldl min x ≤ m := by
      rcases List.mem_cons.mp hm with rfl | q
      · exact h1
      · exact h2 m q
    have a2 : m ≤ xs.foldl min x := by
      rcases foldl_min_mem xs x with q | q
      · rw [q]; exact hle x List.mem_cons_self
      · exact hle _ (List.mem_cons_of_mem _ q)
    omega
theorem maxI_is {ns : List Int} {y m : Int} (h : maxI ns = some y) (hm : m ∈ ns) (hle : ∀ z ∈ ns, z ≤ m) : m = y := by
  cases ns with
  | nil => cases h
  | cons x xs =>
    cases h
    obtain ⟨h1, h2⟩ := foldl_max_le xs x
    have a1 : m ≤ xs.foldl max x := by
      rcases List.mem_cons.mp hm with rfl | q
      · exact h1
      · exact h2 m q
    have a2 : xs.foldl max x ≤ m := by
      rcases foldl_max_mem xs x with q | q
      · rw [q]; exact hle x List.mem_cons_self
      · exact hle _ (List.mem_cons_of_mem _ q)
    omega
theorem lx_minI {g : τ → List Int} (hc : X.calm = true) (hv : LVw S (it eI) g) (hm : X.mg "min" = none) (ha : LO X G env a S e' f) (hG : ∀ p, G (e' p)) (hg : Gl X "min" := by rfl) (he : starEach (a :: []) X.env = (false, eval a X.env) :: starEach [] X.env := by rfl) (hpl : (backTo pos (starEach [] X.env)).any (·.1) = false := by rfl) :
    LX X env (.Call (.Name "min" np) [a] [] pos) (it eI) e' (fun k => f fun x p => (minI (g x)).bind fun y => k y p) :=
  lx_b1 (E := eI) (g := fun x : τ => minI (g x)) (cr_min hc) hm boot_min ha hG (fun K F H fp v x y Q hK s hy r q => by
    obtain ⟨p, vs, fps, rfl, h1, h2⟩ := hv.view s r
    have := h2.zero.2.ints
    subst this
    refine ⟨p, g x, rfl, by rw [← hK]; exact h1, ?_, fun m hmm hle => ?_⟩
    · cases hgx : g x with
      | nil => rw [hgx] at hy; cases hy
      | cons z zs => simp
    · rw [minI_is hy hmm hle]; exact q _ (.int _)) hg (by decide) (by decide) he hpl
theorem lx_maxI {g : τ → List Int} (hc : X.calm = true) (hv : LVw S (it eI) g) (hm : X.mg "max" = none) (ha : LO X G env a S e' f) (hG : ∀ p, G (e' p)) (hg : Gl X "max" := by rfl) (he : starEach (a :: []) X.env = (false, eval a X.env) :: starEach [] X.env := by rfl) (hpl : (backTo pos (starEach [] X.env)).any (·.1) = false := by rfl) :
    LX X env (.Call (.Name "max" np) [a] [] pos) (it eI) e' (fun k => f fun x p => (maxI (g x)).bind fun y => k y p) :=
  lx_b1 (E := eI) (g := fun x : τ => maxI (g x)) (cr_max hc) hm boot_max ha hG (fun K F H fp v x y Q hK s hy r q => by
    obtain ⟨p, vs, fps, rfl, h1, h2⟩ := hv.view s r
    have := h2.zero.2.ints
    subst this
    refine ⟨p, g x, rfl, by rw [← hK]; exact h1, ?_, fun m hmm hle => ?_⟩
    · cases hgx : g x with
      | nil => rw [hgx] at hy; cases hy
      | cons z zs => simp
    · rw [maxI_is hy hmm hle]; exact q _ (.int _)) hg (by decide) (by decide) he hpl
/-- list(xs) -/
theorem lx_listof (hv : LVw S (it Ea) g) (hm : X.mg "list" = none) (ha : LO X G env a S e' f) (hG : ∀ p, G (e' p)) (hg : Gl X "list" := by rfl) (he : starEach (a :: []) X.env = (false, eval a X.env) :: starEach [] X.env := by rfl) (hpl : (backTo pos (starEach [] X.env)).any (·.1) = false := by rfl) :
    LX X env (.Call (.Name "list" np) [a] [] pos) (ls (it Ea)) e' (fun k => f fun x p => k (g x) p) :=
  lx_y1n (E := Ea) (g := g) call_list_of hm PyProof.Rows.boot_list ha hG (fun K F H fp v x Q hK s r q => by
    obtain ⟨p, vs, fps, rfl, h1, h2⟩ := hv.view s r
    exact ⟨p, vs, rfl, .inl (by rw [← hK]; exact h1), fun l hl => q l vs hl h2.zero.2⟩) hg (by decide) (by decide) he hpl
end
end
end Z

set_option Elab.async false
set_option linter.all false
set_option maxRecDepth 100000
namespace Z
open PySem PySem.Spec PyProof.Rows L2

/-! ### kinds of data: depth, equality, order -/
structure Dt {τ : Type} (E : Enc τ) (n : Nat) : Prop where
  lay : ∀ x, (E.enc x).canLay0 = true
  dep : ∀ x, (E.enc x).depth ≤ n
theorem Dt.mono {τ : Type} {E : Enc τ} {n m : Nat} (h : Dt E n) (l : n ≤ m) : Dt E m := ⟨h.lay, fun x => Nat.le_trans (h.dep x) l⟩
theorem canLayAll_of : ∀ {ds : List PyData}, (∀ d ∈ ds, d.canLay0 = true) → PyData.canLayAll0 ds = true
  | [], _ => rfl
  | d :: ds, h => by
    unfold PyData.canLayAll0
    rw [h d List.mem_cons_self, canLayAll_of fun e m => h e (List.mem_cons_of_mem _ m)]; rfl
theorem depthAll_of : ∀ {ds : List PyData} {n : Nat}, (∀ d ∈ ds, d.depth ≤ n) → PyData.depthAll ds ≤ n
  | [], n, _ => by simp [PyData.depthAll]
  | d :: ds, n, h => by
    unfold PyData.depthAll
    have h1 := h d List.mem_cons_self
    have h2 := depthAll_of (ds := ds) (n := n) fun e m => h e (List.mem_cons_of_mem _ m)
    omega
theorem dtI : Dt eI 0 := ⟨fun _ => rfl, fun _ => by simp [eI, PyData.depth]⟩
theorem dtB : Dt eB 0 := ⟨fun _ => rfl, fun _ => by simp [eB, PyData.depth]⟩
theorem dtN : Dt eN 0 := ⟨fun _ => rfl, fun _ => by simp [eN, PyData.depth]⟩
theorem dtL {τ : Type} {E : Enc τ} {n : Nat} (h : Dt E n) : Dt (eL E) (n + 1) := ⟨fun x => by
  show PyData.canLay0 (.list _) = true
  rw [PyData.canLay0]
  exact canLayAll_of fun d m => by obtain ⟨y, _, rfl⟩ := List.mem_map.mp m; exact h.lay y, fun x => by
  show PyData.depth (.list _) ≤ n + 1
  rw [PyData.depth]
  have := depthAll_of (ds := x.map E.enc) (n := n) fun d m => by obtain ⟨y, _, rfl⟩ := List.mem_map.mp m; exact h.dep y
  omega⟩
theorem dtV {τ : Type} {E : Enc τ} {n : Nat} (h : Dt E n) : Dt (eV E) (n + 1) := ⟨fun x => by
  show PyData.canLay0 (.tuple _) = true
  rw [PyData.canLay0]
  exact canLayAll_of fun d m => by obtain ⟨y, _, rfl⟩ := List.mem_map.mp m; exact h.lay y, fun x => by
  show PyData.depth (.tuple _) ≤ n + 1
  rw [PyData.depth]
  have := depthAll_of (ds := x.map E.enc) (n := n) fun d m => by obtain ⟨y, _, rfl⟩ := List.mem_map.mp m; exact h.dep y
  omega⟩
theorem dt_tup {τ : Type} {E : Enc τ} {n : Nat} {ds : τ → List PyData} (he : ∀ x, E.enc x = .tuple (ds x)) (h1 : ∀ x, ∀ d ∈ ds x, d.canLay0 = true) (h2 : ∀ x, ∀ d ∈ ds x, d.depth ≤ n) : Dt E (n + 1) := ⟨fun x => by
  rw [he, PyData.canLay0]; exact canLayAll_of (h1 x), fun x => by
  rw [he, PyData.depth]
  have := depthAll_of (h2 x)
  omega⟩
section
variable {α β γ δ : Type} {A : Enc α} {B : Enc β} {G : Enc γ} {D : Enc δ} {n : Nat}
theorem dtT2 (a : Dt A n) (b : Dt B n) : Dt (eT2 A B) (n + 1) := dt_tup (ds := fun p => [A.enc p.1, B.enc p.2]) (fun _ => rfl) (fun x d m => by simp at m; rcases m with rfl | rfl; exact a.lay _; exact b.lay _) (fun x d m => by simp at m; rcases m with rfl | rfl; exact a.dep _; exact b.dep _)
theorem dtT3 (a : Dt A n) (b : Dt B n) (g : Dt G n) : Dt (eT3 A B G) (n + 1) := dt_tup (ds := fun p => [A.enc p.1, B.enc p.2.1, G.enc p.2.2]) (fun _ => rfl) (fun x d m => by simp at m; rcases m with rfl | rfl | rfl; exact a.lay _; exact b.lay _; exact g.lay _) (fun x d m => by simp at m; rcases m with rfl | rfl | rfl; exact a.dep _; exact b.dep _; exact g.dep _)
theorem dtT4 (a : Dt A n) (b : Dt B n) (g : Dt G n) (d4 : Dt D n) : Dt (eT4 A B G D) (n + 1) := dt_tup (ds := fun p => [A.enc p.1, B.enc p.2.1, G.enc p.2.2.1, D.enc p.2.2.2]) (fun _ => rfl) (fun x d m => by simp at m; rcases m with rfl | rfl | rfl | rfl; exact a.lay _; exact b.lay _; exact g.lay _; exact d4.lay _) (fun x d m => by simp at m; rcases m with rfl | rfl | rfl | rfl; exact a.dep _; exact b.dep _; exact g.dep _; exact d4.dep _)
end
/-- == of this kind is equality -/
structure Ev {τ : Type} [DecidableEq τ] (E : Enc τ) : Prop where
  eq : ∀ x y, PyData.eqv (E.enc x) (E.enc y) = decide (x = y)
theorem evI : Ev eI := ⟨fun x y => by simp [eI, PyData.eqv, Bool.beq_eq_decide_eq]⟩
theorem evB : Ev eB := ⟨fun x y => by simp [eB, PyData.eqv, Bool.beq_eq_decide_eq]⟩
theorem evN : Ev eN := ⟨fun x y => by simp [eN, PyData.eqv]⟩
theorem evS : Ev eS := ⟨fun x y => by simp only [eS, PyData.eqv]; exact Bool.beq_eq_decide_eq x y⟩
theorem eqvAll_map {τ : Type} [DecidableEq τ] {E : Enc τ} (h : Ev E) : ∀ (xs ys : List τ), PyData.eqvAll (xs.map E.enc) (ys.map E.enc) = decide (xs = ys)
  | [], [] => by simp [PyData.eqvAll]
  | [], _ :: _ => by simp [PyData.eqvAll]
  | _ :: _, [] => by simp [PyData.eqvAll]
  | x :: xs, y :: ys => by
    simp only [List.map_cons, PyData.eqvAll, h.eq, eqvAll_map h xs ys, List.cons.injEq, Bool.decide_and]
theorem evL {τ : Type} [DecidableEq τ] {E : Enc τ} (h : Ev E) : Ev (eL E) := ⟨fun x y => by simp only [eL, PyData.eqv]; exact eqvAll_map h x y⟩
theorem evV {τ : Type} [DecidableEq τ] {E : Enc τ} (h : Ev E) : Ev (eV E) := ⟨fun x y => by simp only [eV, PyData.eqv]; exact eqvAll_map h x y⟩
section
variable {α β γ δ : Type} [DecidableEq α] [DecidableEq β] [DecidableEq γ] [DecidableEq δ] {A : Enc α} {B : Enc β} {G : Enc γ} {D : Enc δ}
theorem evT2 (a : Ev A) (b : Ev B) : Ev (eT2 A B) := ⟨fun x y => by
  obtain ⟨x1, x2⟩ := x
  obtain ⟨y1, y2⟩ := y
  simp only [eT2, PyData.eqv, PyData.eqvAll, a.eq, b.eq, Bool.and_true, Prod.mk.injEq, Bool.decide_and]⟩
theorem evT3 (a : Ev A) (b : Ev B) (g : Ev G) : Ev (eT3 A B G) := ⟨fun x y => by
  obtain ⟨x1, x2, x3⟩ := x
  obtain ⟨y1, y2, y3⟩ := y
  simp only [eT3, PyData.eqv, PyData.eqvAll, a.eq, b.eq, g.eq, Bool.and_true, Prod.mk.injEq, Bool.decide_and]⟩
theorem evT4 (a : Ev A) (b : Ev B) (g : Ev G) (d : Ev D) : Ev (eT4 A B G D) := ⟨fun x y => by
  obtain ⟨x1, x2, x3, x4⟩ := x
  obtain ⟨y1, y2, y3, y4⟩ := y
  simp only [eT4, PyData.eqv, PyData.eqvAll, a.eq, b.eq, g.eq, d.eq, Bool.and_true, Prod.mk.injEq, Bool.decide_and]⟩
end
/-- an order: < of this kind -/
structure Od {τ : Type} (E : Enc τ) (lt : τ → τ → Bool) : Prop where
  lt : ∀ x y, PySem.W.dataLt (E.enc x) (E.enc y) = lt x y
  al : ∀ x y, PySem.W.alike (E.enc x) (E.enc y) = true
  nn : ∀ x, E.enc x ≠ .none
def ltI (x y : Int) : Bool := decide (x < y)
theorem odI : Od eI ltI := ⟨fun x y => by
  have h := PySem.W.minD_ints x [y]
  simp only [PySem.W.minD, List.map_cons, List.map_nil, List.foldl_cons, List.foldl_nil] at h
  have h2 := PySem.W.minD_ints y [x]
  simp only [PySem.W.minD, List.map_cons, List.map_nil, List.foldl_cons, List.foldl_nil] at h2
  show PySem.W.dataLt (.int x) (.int y) = _
  unfold ltI
  by_cases c : x < y
  · rw [decide_eq_true c]
    cases e : PySem.W.dataLt (.int x) (.int y) with
    | true => rfl
    | false =>
      rw [e] at h2
      simp at h2; omega
  · rw [decide_eq_false c]
    cases e : PySem.W.dataLt (.int x) (.int y) with
    | false => rfl
    | true =>
      rw [e] at h2
      simp at h2
      by_cases c2 : x = y
      · subst c2
        unfold PySem.W.dataLt at e
        rw [PyProof.Rows.lex_irrefl] at e
        cases e
      · omega, fun _ _ => rfl, fun _ h => by cases h⟩
section
variable {α β γ δ : Type} [DecidableEq α] [DecidableEq β] [DecidableEq γ] {A : Enc α} {B : Enc β} {G : Enc γ} {la : α → α → Bool} {lb : β → β → Bool} {lg : γ → γ → Bool}
theorem lt_cons {x y : PyData} {xs ys : List PyData} (h : PySem.W.alike x y = true) : PySem.W.dataLt (.tuple (x :: xs)) (.tuple (y :: ys)) = if PyData.eqv x y = true then PySem.W.dataLt (.tuple xs) (.tuple ys) else PySem.W.dataLt x y := by
  rw [PySem.W.dataLt_tuple, PySem.W.dataLt_tuple]
  cases e : PyData.eqv x y with
  | true => rw [if_pos rfl]; exact PySem.W.dataLt_all_yes h e
  | false => rw [if_neg Bool.false_ne_true]; exact PySem.W.dataLt_all_no h e
def lt2 (la : α → α → Bool) (lb : β → β → Bool) (x y : α × β) : Bool := if x.1 = y.1 then lb x.2 y.2 else la x.1 y.1
def lt3 (la : α → α → Bool) (lb : β → β → Bool) (lg : γ → γ → Bool) (x y : α × β × γ) : Bool := if x.1 = y.1 then (if x.2.1 = y.2.1 then lg x.2.2 y.2.2 else lb x.2.1 y.2.1) else la x.1 y.1
theorem lt_one {x y : PyData} (h : PySem.W.alike x y = true) : PySem.W.dataLt (.tuple [x]) (.tuple [y]) = PySem.W.dataLt x y := by
  rw [lt_cons h]
  cases e : PyData.eqv x y with
  | false => rw [if_neg Bool.false_ne_true]
  | true =>
    rw [if_pos rfl]
    have := (PySem.W.toks_eqv x y h).1 e
    unfold PySem.W.dataLt
    rw [this, PyProof.Rows.lex_irrefl, PyProof.Rows.lex_irrefl]
theorem odT2 (ea : Ev A) (a : Od A la) (b : Od B lb) : Od (eT2 A B) (lt2 la lb) := ⟨fun x y => by
  obtain ⟨x1, x2⟩ := x
  obtain ⟨y1, y2⟩ := y
  show PySem.W.dataLt (.tuple [A.enc x1, B.enc x2]) (.tuple [A.enc y1, B.enc y2]) = _
  rw [lt_cons (a.al _ _), lt_one (b.al _ _), ea.eq, a.lt, b.lt]
  unfold lt2
  simp only [decide_eq_true_eq], fun x y => by
  obtain ⟨x1, x2⟩ := x
  obtain ⟨y1, y2⟩ := y
  show PySem.W.alike (.tuple [A.enc x1, B.enc x2]) (.tuple [A.enc y1, B.enc y2]) = true
  simp only [PySem.W.alike, PySem.W.alikeAll, a.al, b.al, Bool.and_self], fun _ h => by cases h⟩
theorem odT3 (ea : Ev A) (eb : Ev B) (a : Od A la) (b : Od B lb) (g : Od G lg) : Od (eT3 A B G) (lt3 la lb lg) := ⟨fun x y => by
  obtain ⟨x1, x2, x3⟩ := x
  obtain ⟨y1, y2, y3⟩ := y
  show PySem.W.dataLt (.tuple [A.enc x1, B.enc x2, G.enc x3]) (.tuple [A.enc y1, B.enc y2, G.enc y3]) = _
  rw [lt_cons (a.al _ _), lt_cons (b.al _ _), lt_one (g.al _ _), ea.eq, eb.eq, a.lt, b.lt, g.lt]
  unfold lt3
  simp only [decide_eq_true_eq], fun x y => by
  obtain ⟨x1, x2, x3⟩ := x
  obtain ⟨y1, y2, y3⟩ := y
  show PySem.W.alike (.tuple [A.enc x1, B.enc x2, G.enc x3]) (.tuple [A.enc y1, B.enc y2, G.enc y3]) = true
  simp only [PySem.W.alike, PySem.W.alikeAll, a.al, b.al, g.al, Bool.and_self], fun _ h => by cases h⟩
end

/-! ### data as the layer's rules read them -/
mutual
theorem Rep.dp {K : Fg} {F H : Hp} (s : Same F H) : ∀ {v : V} {d : PyData}, Rep K F v d → d.canLay0 = true → Dp K H v d
  | _, _, .non, _ => .non
  | _, _, .bl b, _ => .bl b
  | _, _, .int i, _ => .int i
  | _, _, .str x, _ => .str x
  | _, _, .lst h r, c => .lst (SqL.of (s _ _ h)) (RepAll.dp s r (by rwa [PyData.canLay0] at c))
  | _, _, .tup h r, c => .tup (same_sqT s h) (RepAll.dp s r (by rwa [PyData.canLay0] at c))
  | _, _, .dK h r, c => by rw [PyData.canLay0] at c; cases c
  | _, _, .dT h r, c => by rw [PyData.canLay0] at c; cases c
theorem RepAll.dp {K : Fg} {F H : Hp} (s : Same F H) : ∀ {vs : List V} {ds : List PyData}, RepAll K F vs ds → PyData.canLayAll0 ds = true → DpAll K H vs ds
  | _, _, .nil, _ => .nil
  | _, _, .cons h r, c => by
    rw [PyData.canLayAll0] at c
    have c' := Bool.and_eq_true_iff.mp c
    exact .cons (Rep.dp s h c'.1) (RepAll.dp s r c'.2)
end
structure Dv {τ : Type} (S : Stor τ) (E : Enc τ) : Prop where
  dp : ∀ {K : Fg} {F H : Hp} {fp : List Addr} {v : V} {x : τ}, Same F H → (E.enc x).canLay0 = true → S.rel K F H fp v x → Dp K H v (E.enc x)
section
variable {τ τ1 τ2 α β : Type} {S : Stor τ} {S1 : Stor τ1} {S2 : Stor τ2} {E : Enc τ} {E1 : Enc τ1} {E2 : Enc τ2}
theorem dv_it : Dv (it E) E := ⟨fun s c r => r.2.dp s c⟩
theorem RelAll.dps {K : Fg} {H : Hp} {R : List Addr → V → τ → Prop} : ∀ {fp : List Addr} {vs : List V} {xs : List τ}, (∀ fq v x, R fq v x → (E.enc x).canLay0 = true → Dp K H v (E.enc x)) → PyData.canLayAll0 (xs.map E.enc) = true → RelAll R fp vs xs → DpAll K H vs (xs.map E.enc)
  | _, _, _, _, _, .nil => .nil
  | _, _, _, f, c, .cons h r => by
    rw [List.map_cons, PyData.canLayAll0] at c
    have c' := Bool.and_eq_true_iff.mp c
    exact .cons (f _ _ _ h c'.1) (RelAll.dps f c'.2 r)
theorem dv_ls (d : Dv S E) : Dv (ls S) (eL E) := ⟨fun {K F H fp v x} s c r => by
  obtain ⟨p, vs, fps, rfl, h, ra, rfl⟩ := r
  have c' : PyData.canLayAll0 (x.map E.enc) = true := by
    have : PyData.canLay0 (.list (x.map E.enc)) = true := c
    rwa [PyData.canLay0] at this
  exact .lst (SqL.of h) (ra.dps (fun _ _ _ q c => d.dp s c q) c')⟩
theorem shaped_of {d : PyData} (h1 : d.canLay0 = true) (h2 : d.depth ≤ 64) : SeqAt.shaped d = true := by
  unfold SeqAt.shaped
  rw [h1, decide_eq_true h2]; rfl
variable {X : Cx} {Ω : Type} {env : Env} {nm : Str} {pos np : Pos} {a b : Expr} {P P1 P2 : Type} {G : Env → Prop} {G1 : Env → Prop} {G2 : P1 → Env → Prop} {e' : P → Env} {e1 : P1 → Env} {e2 : P1 → P2 → Env} {fa : (τ1 → P1 → Option Ω) → Option Ω} {fb : P1 → (τ2 → P2 → Option Ω) → Option Ω}
/-- == of data of two kinds -/
theorem lc_eqD {n m : Nat} (hu : X.A.units + 64 < cLine) (d1 : Dv S1 E1) (d2 : Dv S2 E2) (t1 : Dt E1 n) (t2 : Dt E2 m) (ha : LO X G1 env a S1 e1 fa) (hb : ∀ p1, LO X (G2 p1) (e1 p1) b S2 (e2 p1) (fb p1)) (g1 : ∀ p1 p2, G1 (e2 p1 p2)) (g2 : ∀ p1 p2, G2 p1 (e2 p1 p2)) (hn : n ≤ 64 := by decide) (hm : m ≤ 64 := by decide) :
    LC X env .Eq a b (fun p : P1 × P2 => e2 p.1 p.2) (fun k => fa fun x p1 => fb p1 fun y p2 => k (PyData.eqv (E1.enc x) (E2.enc y)) (p1, p2)) :=
  lc_cmp (op_eqD hu) ha hb g1 g2 fun K F H fp fq v u x y Q hK s r1 r2 q => by
    subst hK
    exact ⟨_, _, d1.dp s (t1.lay x) r1, d2.dp s (t2.lay y) r2, shaped_of (t1.lay x) (Nat.le_trans (t1.dep x) hn), shaped_of (t2.lay y) (Nat.le_trans (t2.dep y) hm), q⟩
theorem lc_neD {n m : Nat} (hu : X.A.units + 64 < cLine) (d1 : Dv S1 E1) (d2 : Dv S2 E2) (t1 : Dt E1 n) (t2 : Dt E2 m) (ha : LO X G1 env a S1 e1 fa) (hb : ∀ p1, LO X (G2 p1) (e1 p1) b S2 (e2 p1) (fb p1)) (g1 : ∀ p1 p2, G1 (e2 p1 p2)) (g2 : ∀ p1 p2, G2 p1 (e2 p1 p2)) (hn : n ≤ 64 := by decide) (hm : m ≤ 64 := by decide) :
    LC X env .NotEq a b (fun p : P1 × P2 => e2 p.1 p.2) (fun k => fa fun x p1 => fb p1 fun y p2 => k (!PyData.eqv (E1.enc x) (E2.enc y)) (p1, p2)) :=
  lc_cmp (op_neD hu) ha hb g1 g2 fun K F H fp fq v u x y Q hK s r1 r2 q => by
    subst hK
    exact ⟨_, _, d1.dp s (t1.lay x) r1, d2.dp s (t2.lay y) r2, shaped_of (t1.lay x) (Nat.le_trans (t1.dep x) hn), shaped_of (t2.lay y) (Nat.le_trans (t2.dep y) hm), q⟩
/-- .. of any data, with a check -/
theorem lc_eqC (hu : X.A.units + 64 < cLine) (d1 : Dv S1 E1) (d2 : Dv S2 E2) (ha : LO X G1 env a S1 e1 fa) (hb : ∀ p1, LO X (G2 p1) (e1 p1) b S2 (e2 p1) (fb p1)) (g1 : ∀ p1 p2, G1 (e2 p1 p2)) (g2 : ∀ p1 p2, G2 p1 (e2 p1 p2)) :
    LC X env .Eq a b (fun p : P1 × P2 => e2 p.1 p.2) (fun k => fa fun x p1 => fb p1 fun y p2 => ck (SeqAt.shaped (E1.enc x) && SeqAt.shaped (E2.enc y)) (k (PyData.eqv (E1.enc x) (E2.enc y)) (p1, p2))) :=
  lc_cmpC (c := fun x y => SeqAt.shaped (E1.enc x) && SeqAt.shaped (E2.enc y)) (op_eqD hu) ha hb g1 g2 fun K F H fp fq v u x y Q hK s hc r1 r2 q => by
    subst hK
    obtain ⟨c1, c2⟩ := Bool.and_eq_true_iff.mp hc
    exact ⟨_, _, d1.dp s (SeqAt.canLay_of_shaped c1) r1, d2.dp s (SeqAt.canLay_of_shaped c2) r2, c1, c2, q⟩
theorem lc_neC (hu : X.A.units + 64 < cLine) (d1 : Dv S1 E1) (d2 : Dv S2 E2) (ha : LO X G1 env a S1 e1 fa) (hb : ∀ p1, LO X (G2 p1) (e1 p1) b S2 (e2 p1) (fb p1)) (g1 : ∀ p1 p2, G1 (e2 p1 p2)) (g2 : ∀ p1 p2, G2 p1 (e2 p1 p2)) :
    LC X env .NotEq a b (fun p : P1 × P2 => e2 p.1 p.2) (fun k => fa fun x p1 => fb p1 fun y p2 => ck (SeqAt.shaped (E1.enc x) && SeqAt.shaped (E2.enc y)) (k (!PyData.eqv (E1.enc x) (E2.enc y)) (p1, p2))) :=
  lc_cmpC (c := fun x y => SeqAt.shaped (E1.enc x) && SeqAt.shaped (E2.enc y)) (op_neD hu) ha hb g1 g2 fun K F H fp fq v u x y Q hK s hc r1 r2 q => by
    subst hK
    obtain ⟨c1, c2⟩ := Bool.and_eq_true_iff.mp hc
    exact ⟨_, _, d1.dp s (SeqAt.canLay_of_shaped c1) r1, d2.dp s (SeqAt.canLay_of_shaped c2) r2, c1, c2, q⟩
theorem lc_eqT [DecidableEq τ1] {S2 : Stor τ1} {fb : P1 → (τ1 → P2 → Option Ω) → Option Ω} {n : Nat} (hu : X.A.units + 64 < cLine) (d1 : Dv S1 E1) (d2 : Dv S2 E1) (t : Dt E1 n) (ev : Ev E1) (ha : LO X G1 env a S1 e1 fa) (hb : ∀ p1, LO X (G2 p1) (e1 p1) b S2 (e2 p1) (fb p1)) (g1 : ∀ p1 p2, G1 (e2 p1 p2)) (g2 : ∀ p1 p2, G2 p1 (e2 p1 p2)) (hn : n ≤ 64 := by decide) :
    LC X env .Eq a b (fun p : P1 × P2 => e2 p.1 p.2) (fun k => fa fun x p1 => fb p1 fun y p2 => k (decide (x = y)) (p1, p2)) :=
  lc_cmp (op_eqD hu) ha hb g1 g2 fun K F H fp fq v u x y Q hK s r1 r2 q => by
    subst hK
    exact ⟨_, _, d1.dp s (t.lay x) r1, d2.dp s (t.lay y) r2, shaped_of (t.lay x) (Nat.le_trans (t.dep x) hn), shaped_of (t.lay y) (Nat.le_trans (t.dep y) hn), by rw [ev.eq]; exact q⟩
theorem lc_neT [DecidableEq τ1] {S2 : Stor τ1} {fb : P1 → (τ1 → P2 → Option Ω) → Option Ω} {n : Nat} (hu : X.A.units + 64 < cLine) (d1 : Dv S1 E1) (d2 : Dv S2 E1) (t : Dt E1 n) (ev : Ev E1) (ha : LO X G1 env a S1 e1 fa) (hb : ∀ p1, LO X (G2 p1) (e1 p1) b S2 (e2 p1) (fb p1)) (g1 : ∀ p1 p2, G1 (e2 p1 p2)) (g2 : ∀ p1 p2, G2 p1 (e2 p1 p2)) (hn : n ≤ 64 := by decide) :
    LC X env .NotEq a b (fun p : P1 × P2 => e2 p.1 p.2) (fun k => fa fun x p1 => fb p1 fun y p2 => k (!decide (x = y)) (p1, p2)) :=
  lc_cmp (op_neD hu) ha hb g1 g2 fun K F H fp fq v u x y Q hK s r1 r2 q => by
    subst hK
    exact ⟨_, _, d1.dp s (t.lay x) r1, d2.dp s (t.lay y) r2, shaped_of (t.lay x) (Nat.le_trans (t.dep x) hn), shaped_of (t.lay y) (Nat.le_trans (t.dep y) hn), by rw [ev.eq]; exact q⟩
/-- is None, is not None -/
def isNone (d : PyData) : Bool := match d with
  | .none => true
  | _ => false
theorem enc_none {v : V} {K : Fg} {F : Hp} {d : PyData} (h : Rep K F v d) : decide (v = .non) = isNone d := by
  cases h <;> simp [isNone]
theorem lc_isN {fp1 : (τ1 → P1 → Option Ω) → Option Ω} {j : Nat} {cp : Pos} (ha : LX X env a (it E1) e1 fp1) : LC X env .Is a (.Constant .none j cp) (fun p : P1 × Unit => e1 p.1) (fun k => fp1 fun x p1 => k (isNone (E1.enc x)) (p1, ())) :=
  lc_cmp (g := fun x _ => isNone (E1.enc x)) op_isN (lo_of ha) (fun p1 => lo_of (lx_non (env := e1 p1))) (fun _ _ => trivial) (fun _ _ => trivial) fun K F H fp fq v u x y Q hK s r1 r2 q => by
    obtain ⟨_, r1⟩ := r1
    obtain ⟨_, r2⟩ := r2
    have r2' : Rep K F u .none := r2
    cases r2'
    exact ⟨rfl, by rw [enc_none r1]; exact q⟩
theorem lc_notN {fp1 : (τ1 → P1 → Option Ω) → Option Ω} {j : Nat} {cp : Pos} (ha : LX X env a (it E1) e1 fp1) : LC X env .IsNot a (.Constant .none j cp) (fun p : P1 × Unit => e1 p.1) (fun k => fp1 fun x p1 => k (!isNone (E1.enc x)) (p1, ())) :=
  lc_cmp (g := fun x _ => !isNone (E1.enc x)) op_notN (lo_of ha) (fun p1 => lo_of (lx_non (env := e1 p1))) (fun _ _ => trivial) (fun _ _ => trivial) fun K F H fp fq v u x y Q hK s r1 r2 q => by
    obtain ⟨_, r1⟩ := r1
    obtain ⟨_, r2⟩ := r2
    have r2' : Rep K F u .none := r2
    cases r2'
    exact ⟨rfl, by rw [enc_none r1]; exact q⟩

/-! ### min, max, sorted of lists of data -/
def rMinD (K : Fg) : List V → Hp → VK → Prop := fun vs H Q => ∃ (p : Addr) (its : List V) (x : PyData) (xs : List PyData), vs = [.ref p] ∧ SqL K H p its ∧ DpAll K H its (x :: xs) ∧ PyData.canLayAll0 (x :: xs) = true ∧ PySem.W.AlikeAll (x :: xs) ∧ PyData.depthAll (x :: xs) ≤ 60 ∧
  ∀ (i : Nat) (v : V), its[i]? = some v → (x :: xs)[i]? = some (PySem.W.minD x xs) → Q v H
def rMaxD (K : Fg) : List V → Hp → VK → Prop := fun vs H Q => ∃ (p : Addr) (its : List V) (x : PyData) (xs : List PyData), vs = [.ref p] ∧ SqL K H p its ∧ DpAll K H its (x :: xs) ∧ PyData.canLayAll0 (x :: xs) = true ∧ PySem.W.AlikeAll (x :: xs) ∧ PyData.depthAll (x :: xs) ≤ 60 ∧
  ∀ (i : Nat) (v : V), its[i]? = some v → (x :: xs)[i]? = some (PySem.W.maxD x xs) → Q v H
theorem canLay_get : ∀ {ds : List PyData} {i : Nat} {d : PyData}, PyData.canLayAll0 ds = true → ds[i]? = some d → d.canLay0 = true
  | [], _, _, _, e => by simp at e
  | d :: ds, 0, _, c, e => by
    rw [PyData.canLayAll0] at c
    simp at e; subst e
    exact (Bool.and_eq_true_iff.mp c).1
  | d :: ds, i + 1, _, c, e => by
    rw [PyData.canLayAll0] at c
    exact canLay_get (Bool.and_eq_true_iff.mp c).2 (by simpa using e)
theorem readsAll_get {h : Heap} : ∀ {us : List Value} {ds : List PyData} {as : List Addr} {i : Nat} {u : Value}, ReadsAll h us ds as → us[i]? = some u → ∃ d bs, ds[i]? = some d ∧ Reads h u d bs
  | _, _, _, _, _, .nil, e => by simp at e
  | _, _, _, 0, _, .cons r _, e => by simp at e; subst e; exact ⟨_, _, rfl, r⟩
  | _, _, _, i + 1, _, .cons _ r, e => by
    obtain ⟨d, bs, h1, h2⟩ := readsAll_get (i := i) r (by simpa using e)
    exact ⟨d, bs, by simpa using h1, h2⟩
theorem cr_minD (hc : X.calm = true) (hu : X.A.units + 64 < cLine) : CallR X (.builtin "min") (rMinD X.K) := by
  intro pins s σ H vs us Q I r h
  obtain ⟨p, its, x, xs, rfl, hs, hd, hl0, hal, hdep, q⟩ := h
  obtain ⟨uts, rv, pl, hz⟩ := I.list hs
  rw [Vals.ref1 r]
  obtain ⟨as, hr⟩ := Dp.readsAll I (x :: xs) its uts hd rv
  refine PySem.W.min_list_data (I.ok.hd hc) pl.isList hr hal (by omega) fun i u h' tk bs hi hr' hk => ?_
  have hi' : uts[i]? = some u := by simpa using hi
  obtain ⟨d, cs, e1, r1⟩ := readsAll_get hr hi'
  have r1' := PyProof.Rows.Reads.keeps hk r1
  have e2 : d = PySem.W.minD x xs := PySem.SeqAt.Reads.unique d _ u _ _ (canLay_get hl0 e1) r1' hr'
  have hlen := rv.length
  have hi2 : i < its.length := by
    have := (List.getElem?_eq_some_iff.mp hi').1
    omega
  obtain ⟨w, hw, rw'⟩ := Vals.get rv (List.getElem?_eq_getElem hi2)
  rw [hi'] at hw; cases hw
  exact ⟨_, H, I.kept hk, rw', q i _ (List.getElem?_eq_getElem hi2) (by rw [e1, e2])⟩
theorem cr_maxD (hc : X.calm = true) (hu : X.A.units + 64 < cLine) : CallR X (.builtin "max") (rMaxD X.K) := by
  intro pins s σ H vs us Q I r h
  obtain ⟨p, its, x, xs, rfl, hs, hd, hl0, hal, hdep, q⟩ := h
  obtain ⟨uts, rv, pl, hz⟩ := I.list hs
  rw [Vals.ref1 r]
  obtain ⟨as, hr⟩ := Dp.readsAll I (x :: xs) its uts hd rv
  refine PySem.W.max_list_data (I.ok.hd hc) pl.isList hr hal (by omega) fun i u h' tk bs hi hr' hk => ?_
  have hi' : uts[i]? = some u := by simpa using hi
  obtain ⟨d, cs, e1, r1⟩ := readsAll_get hr hi'
  have r1' := PyProof.Rows.Reads.keeps hk r1
  have e2 : d = PySem.W.maxD x xs := PySem.SeqAt.Reads.unique d _ u _ _ (canLay_get hl0 e1) r1' hr'
  have hlen := rv.length
  have hi2 : i < its.length := by
    have := (List.getElem?_eq_some_iff.mp hi').1
    omega
  obtain ⟨w, hw, rw'⟩ := Vals.get rv (List.getElem?_eq_getElem hi2)
  rw [hi'] at hw; cases hw
  exact ⟨_, H, I.kept hk, rw', q i _ (List.getElem?_eq_getElem hi2) (by rw [e1, e2])⟩
/-- the first least, the first greatest, by < -/
def minB {α : Type} (lt : α → α → Bool) : List α → Option α
  | [] => none
  | x :: xs => some (xs.foldl (fun a y => if lt y a = true then y else a) x)
def maxB {α : Type} (lt : α → α → Bool) : List α → Option α
  | [] => none
  | x :: xs => some (xs.foldl (fun a y => if lt a y = true then y else a) x)
theorem minD_enc {E : Enc α} {lt : α → α → Bool} (od : Od E lt) : ∀ (xs : List α) (x : α), PySem.W.minD (E.enc x) (xs.map E.enc) = E.enc (xs.foldl (fun a y => if lt y a = true then y else a) x)
  | [], x => rfl
  | y :: xs, x => by
    show List.foldl _ (if PySem.W.dataLt (E.enc y) (E.enc x) = true then E.enc y else E.enc x) (xs.map E.enc) = _
    rw [od.lt, List.foldl_cons]
    have := minD_enc od xs (if lt y x = true then y else x)
    unfold PySem.W.minD at this
    rw [← this]
    congr 1
    cases lt y x <;> simp
theorem maxD_enc {E : Enc α} {lt : α → α → Bool} (od : Od E lt) : ∀ (xs : List α) (x : α), PySem.W.maxD (E.enc x) (xs.map E.enc) = E.enc (xs.foldl (fun a y => if lt a y = true then y else a) x)
  | [], x => rfl
  | y :: xs, x => by
    show List.foldl _ (if PySem.W.dataLt (E.enc x) (E.enc y) = true then E.enc y else E.enc x) (xs.map E.enc) = _
    rw [od.lt, List.foldl_cons]
    have := maxD_enc od xs (if lt x y = true then y else x)
    unfold PySem.W.maxD at this
    rw [← this]
    congr 1
    cases lt x y <;> simp
theorem od_all {E : Enc α} {lt : α → α → Bool} (od : Od E lt) (xs : List α) : PySem.W.AlikeAll (xs.map E.enc) := ⟨fun x hx y hy => by
  obtain ⟨a, _, rfl⟩ := List.mem_map.mp hx
  obtain ⟨b, _, rfl⟩ := List.mem_map.mp hy
  exact od.al a b, fun x hx => by
  obtain ⟨a, _, rfl⟩ := List.mem_map.mp hx
  exact od.nn a⟩
section
variable {E : Enc α} {lt : α → α → Bool} {g : τ → List α} {f : (τ → P → Option Ω) → Option Ω} {n : Nat}
theorem dts {E : Enc α} (dt : Dt E n) (xs : List α) : PyData.canLayAll0 (xs.map E.enc) = true ∧ PyData.depthAll (xs.map E.enc) ≤ n :=
  ⟨canLayAll_of fun d m => by obtain ⟨y, _, rfl⟩ := List.mem_map.mp m; exact dt.lay y, depthAll_of fun d m => by obtain ⟨y, _, rfl⟩ := List.mem_map.mp m; exact dt.dep y⟩
theorem lx_minD (hc : X.calm = true) (hu : X.A.units + 64 < cLine) (od : Od E lt) (dt : Dt E n) (hv : LVw S (it E) g) (hm : X.mg "min" = none) (ha : LO X G env a S e' f) (hG : ∀ p, G (e' p)) (hn : n ≤ 60 := by decide) (hg : Gl X "min" := by rfl) (he : starEach (a :: []) X.env = (false, eval a X.env) :: starEach [] X.env := by rfl) (hpl : (backTo pos (starEach [] X.env)).any (·.1) = false := by rfl) :
    LX X env (.Call (.Name "min" np) [a] [] pos) (it E) e' (fun k => f fun x p => (minB lt (g x)).bind fun y => k y p) :=
  lx_b1 (E := E) (g := fun x : τ => minB lt (g x)) (cr_minD hc hu) hm boot_min ha hG (fun K F H fp v x y Q hK s hy r q => by
    subst hK
    obtain ⟨p, vs, fps, rfl, h1, h2⟩ := hv.view s r
    have rp := h2.zero.2
    cases hgx : g x with
    | nil => rw [hgx] at hy; cases hy
    | cons z zs =>
      rw [hgx] at hy rp
      have hy' : y = zs.foldl (fun a y => if lt y a = true then y else a) z := (Option.some.inj hy).symm
      have hd := dts dt (z :: zs)
      refine ⟨p, vs, E.enc z, zs.map E.enc, rfl, h1, rp.dp s hd.1, hd.1, od_all od (z :: zs), Nat.le_trans hd.2 hn, fun i v hi hv => ?_⟩
      rw [minD_enc od, ← hy'] at hv
      obtain ⟨w, hw, rr⟩ := rp.get (i := i) (d := E.enc y) (by rw [← hv]; rfl)
      rw [hi] at hw; cases hw
      exact q _ rr) hg (by decide) (by decide) he hpl
theorem lx_maxD (hc : X.calm = true) (hu : X.A.units + 64 < cLine) (od : Od E lt) (dt : Dt E n) (hv : LVw S (it E) g) (hm : X.mg "max" = none) (ha : LO X G env a S e' f) (hG : ∀ p, G (e' p)) (hn : n ≤ 60 := by decide) (hg : Gl X "max" := by rfl) (he : starEach (a :: []) X.env = (false, eval a X.env) :: starEach [] X.env := by rfl) (hpl : (backTo pos (starEach [] X.env)).any (·.1) = false := by rfl) :
    LX X env (.Call (.Name "max" np) [a] [] pos) (it E) e' (fun k => f fun x p => (maxB lt (g x)).bind fun y => k y p) :=
  lx_b1 (E := E) (g := fun x : τ => maxB lt (g x)) (cr_maxD hc hu) hm boot_max ha hG (fun K F H fp v x y Q hK s hy r q => by
    subst hK
    obtain ⟨p, vs, fps, rfl, h1, h2⟩ := hv.view s r
    have rp := h2.zero.2
    cases hgx : g x with
    | nil => rw [hgx] at hy; cases hy
    | cons z zs =>
      rw [hgx] at hy rp
      have hy' : y = zs.foldl (fun a y => if lt a y = true then y else a) z := (Option.some.inj hy).symm
      have hd := dts dt (z :: zs)
      refine ⟨p, vs, E.enc z, zs.map E.enc, rfl, h1, rp.dp s hd.1, hd.1, od_all od (z :: zs), Nat.le_trans hd.2 hn, fun i v hi hv => ?_⟩
      rw [maxD_enc od, ← hy'] at hv
      obtain ⟨w, hw, rr⟩ := rp.get (i := i) (d := E.enc y) (by rw [← hv]; rfl)
      rw [hi] at hw; cases hw
      exact q _ rr) hg (by decide) (by decide) he hpl
end
end
end Z

set_option Elab.async false
set_option linter.all false
set_option maxRecDepth 100000
namespace Z
open PySem PySem.Spec PyProof.Rows L2

/-- a slice, as the layer cuts it -/
def cutL {α : Type} (xs : List α) (lo hi : Option Int) : List α := (xs.drop (HT.sIx xs.length 0 lo)).take (HT.sIx xs.length xs.length hi - HT.sIx xs.length 0 lo)
section
variable {X : Cx} {Ω : Type} {env : Env} {nm : Str} {pos np sp : Pos} {a b c : Expr} {P P1 P2 P3 : Type} {τ τ1 τ2 α β : Type} {S : Stor τ} {S1 : Stor τ1} {S2 : Stor τ2} {E : Enc α} {Eb : Enc β} {G : Env → Prop} {G1 : Env → Prop} {G2 : P1 → Env → Prop} {e' : P → Env} {e1 : P1 → Env} {e2 : P1 → P2 → Env} {e3 : P1 → P2 → P3 → Env}
  {fa : (τ1 → P1 → Option Ω) → Option Ω} {fb : P1 → (τ2 → P2 → Option Ω) → Option Ω} {g1 : τ1 → List α} {g2 : τ2 → List α}
/-- xs + ys -/
theorem lx_cat (hv1 : LVm S1 (it E) g1) (hv2 : LVm S2 (it E) g2) (ha : LO X G1 env a S1 e1 fa) (hb : ∀ p1, LO X (G2 p1) (e1 p1) b S2 (e2 p1) (fb p1)) (h1 : ∀ p1 p2, G1 (e2 p1 p2)) (h2 : ∀ p1 p2, G2 p1 (e2 p1 p2)) :
    LX X env (.BinOp a .Add b pos) (ls (it E)) (fun p : P1 × P2 => e2 p.1 p.2) (fun k => fa fun x p1 => fb p1 fun y p2 => ck (decide ((g1 x).length + (g2 y).length ≤ SZ)) (k (g1 x ++ g2 y) (p1, p2))) :=
  fun C F H σs es σ k ω Q hK hl h hk q => tE.of X (pe_op op_cat (peC X) (peC X)) (op2_run ha hb h1 h2 hK hl h hk fun x p1 y p2 v u F' H' fp fq hk' h' r1 r2 => by
    obtain ⟨hc, hk'⟩ := ck_some hk'
    obtain ⟨p, vs, fps, rfl, l1, ra⟩ := hv1.view h'.sF r1
    obtain ⟨p', ws, fqs, rfl, l2, rb⟩ := hv2.view h'.sF r2
    have hc' := of_decide_eq_true hc
    have n1 := ra.length
    have n2 := rb.length
    refine ⟨p, p', vs, ws, rfl, rfl, l1, l2, by rw [SZ_eq]; omega, fun t nt => ?_⟩
    refine q (g1 x ++ g2 y) (p1, p2) (.ref t) F' _ hk' (h'.newOw nt ⟨t, vs ++ ws, [], rfl, upd_same, ?_, rfl⟩)
    have := ra.zero.2.app rb.zero.2
    rw [← List.map_append] at this
    exact this.zero)
theorem RepAll.cut {K : Fg} {F : Hp} {vs : List V} {xs : List α} (lo hi : Option Int) (h : RepAll K F vs (xs.map E.enc)) : RepAll K F (cutV vs lo hi) ((cutL xs lo hi).map E.enc) := by
  have hl : vs.length = xs.length := by have := h.length; simpa using this
  unfold cutV cutL
  rw [hl, List.map_take, List.map_drop]
  exact (h.drop _).take _
/-- xs[i:j] -/
theorem lx_sl2 {fi : P1 → (Int → P2 → Option Ω) → Option Ω} {fj : P1 → P2 → (Int → P3 → Option Ω) → Option Ω} (hv : LVw S1 (it E) g1) (ha : LX X env a S1 e1 fa) (hi : ∀ p1, LX X (e1 p1) b (it eI) (e2 p1) (fi p1)) (hj : ∀ p1 p2, LX X (e2 p1 p2) c (it eI) (e3 p1 p2) (fj p1 p2)) :
    LX X env (.Subscript a (.Slice (some b) (some c) none sp) pos) (ls (it E)) (fun p : P1 × P2 × P3 => e3 p.1 p.2.1 p.2.2) (fun k => fa fun x p1 => fi p1 fun i p2 => fj p1 p2 fun j p3 => k (cutL (g1 x) (some i) (some j)) (p1, p2, p3)) :=
  fun C F H σs es σ k ω Q hK hl h hk q => tE.of X (pe_slice sl_list (peC X) (po_some (peC X)) (po_some (peC X))) (ha C F H σs es σ _ ω _ hK hl h hk fun x p1 v F1 H1 hk1 h1 => by
    refine hi p1 C F1 H1 (some v :: σs) (.st none τ1 S1 x :: es) σ _ ω _ hK (by simp [hl]) h1 hk1 fun i p2 u F2 H2 hk2 h2 => ?_
    have hu : u = .int i := by
      obtain ⟨v', fp, e1, r⟩ := h2.look (i := 0) rfl
      simp at e1; subst e1
      obtain ⟨_, r⟩ := r
      cases r; rfl
    subst hu
    refine ⟨i, rfl, hj p1 p2 C F2 H2 (some v :: σs) (.st none τ1 S1 x :: es) σ _ ω _ hK (by simp [hl]) h2.pop hk2 fun j p3 u F3 H3 hk3 h3 => ?_⟩
    have hu : u = .int j := by
      obtain ⟨v', fp, e1, r⟩ := h3.look (i := 0) rfl
      simp at e1; subst e1
      obtain ⟨_, r⟩ := r
      cases r; rfl
    subst hu
    obtain ⟨v', fp, ee, r⟩ := ER.look (i := 0) (show ER C F3 H3 (some v :: (σs ++ σ)) (.st none τ1 S1 x :: (es ++ e3 p1 p2 p3)) from h3.pop) rfl
    simp at ee; subst ee
    obtain ⟨p, vs, fps, rfl, l1, ra⟩ := hv.view h3.sF r
    refine ⟨j, rfl, p, vs, rfl, by rw [← hK]; exact l1, fun t nt => ?_⟩
    exact q _ (p1, p2, p3) (.ref t) F3 _ hk3 (ER.newOw (show ER C F3 H3 (σs ++ σ) (es ++ e3 p1 p2 p3) from h3.pop.pop) nt ⟨t, _, [], rfl, upd_same, (ra.zero.2.cut (some i) (some j)).zero, rfl⟩))
/-- xs[i:] -/
theorem lx_slL {fi : P1 → (Int → P2 → Option Ω) → Option Ω} (hv : LVw S1 (it E) g1) (ha : LX X env a S1 e1 fa) (hi : ∀ p1, LX X (e1 p1) b (it eI) (e2 p1) (fi p1)) :
    LX X env (.Subscript a (.Slice (some b) none none sp) pos) (ls (it E)) (fun p : P1 × P2 => e2 p.1 p.2) (fun k => fa fun x p1 => fi p1 fun i p2 => k (cutL (g1 x) (some i) none) (p1, p2)) :=
  fun C F H σs es σ k ω Q hK hl h hk q => tE.of X (pe_slice sl_list (peC X) (po_some (peC X)) po_none) (op2_run (lo_of ha) (fun p1 => lo_of (hi p1)) (fun _ _ => trivial) (fun _ _ => trivial) (R := fun x y H => ∃ i, y = .int i ∧ rSlL X.K x (some i) none H Q) hK hl h hk
    (fun x p1 i p2 v u F' H' fp fq hk' h' r1 r2 => by
      obtain ⟨_, r2⟩ := r2
      cases r2
      obtain ⟨p, vs, fps, rfl, l1, ra⟩ := hv.view h'.sF r1
      exact ⟨i, rfl, p, vs, rfl, by rw [← hK]; exact l1, fun t nt => q _ (p1, p2) (.ref t) F' _ hk' (h'.newOw nt ⟨t, _, [], rfl, upd_same, (ra.zero.2.cut (some i) none).zero, rfl⟩)⟩))
/-- xs[:j] -/
theorem lx_slR {fi : P1 → (Int → P2 → Option Ω) → Option Ω} (hv : LVw S1 (it E) g1) (ha : LX X env a S1 e1 fa) (hi : ∀ p1, LX X (e1 p1) b (it eI) (e2 p1) (fi p1)) :
    LX X env (.Subscript a (.Slice none (some b) none sp) pos) (ls (it E)) (fun p : P1 × P2 => e2 p.1 p.2) (fun k => fa fun x p1 => fi p1 fun j p2 => k (cutL (g1 x) none (some j)) (p1, p2)) :=
  fun C F H σs es σ k ω Q hK hl h hk q => tE.of X (pe_slice sl_list (peC X) po_none (po_some (peC X))) (op2_run (lo_of ha) (fun p1 => lo_of (hi p1)) (fun _ _ => trivial) (fun _ _ => trivial) (R := fun x y H => ∃ i, y = .int i ∧ rSlL X.K x none (some i) H Q) hK hl h hk
    (fun x p1 i p2 v u F' H' fp fq hk' h' r1 r2 => by
      obtain ⟨_, r2⟩ := r2
      cases r2
      obtain ⟨p, vs, fps, rfl, l1, ra⟩ := hv.view h'.sF r1
      exact ⟨i, rfl, p, vs, rfl, by rw [← hK]; exact l1, fun t nt => q _ (p1, p2) (.ref t) F' _ hk' (h'.newOw nt ⟨t, _, [], rfl, upd_same, (ra.zero.2.cut none (some i)).zero, rfl⟩)⟩))

/-! ### sorted -/
def rSortD (K : Fg) : List V → Hp → VK → Prop := fun vs H Q => ∃ (p : Addr) (its : List V) (ds : List PyData), vs = [.ref p] ∧ SqL K H p its ∧ DpAll K H its ds ∧ PySem.W.AllAlike ds ∧ PySem.W.Sortable ds ∧ (∀ d ∈ ds, d.depth ≤ 60) ∧
  ∀ t, H t = none → Q (.ref t) (upd H t (.lst (((its.zip ds).mergeSort (PySem.W.dataLe false Prod.snd)).map Prod.fst)))
theorem eachIs_zip {its : List V} {ds : List PyData} {us : List Value} (h : Vals its us) : its.length = ds.length → PySem.W.EachIs (fun (u : Value) (p : V × PyData) => RelV p.1 u) us (its.zip ds) := by
  intro hl
  induction h generalizing ds with
  | nil => cases ds with
    | nil => exact .nil
    | cons d ds => simp at hl
  | cons r t ih => cases ds with
    | nil => simp at hl
    | cons d ds => exact .cons r (ih (by simpa using hl))
theorem eachIs_reads {h : Heap} {its : List V} {ds : List PyData} {us : List Value} {as : List Addr} (hr : ReadsAll h us ds as) (hl : its.length = ds.length) : PySem.W.EachIs (fun (u : Value) (p : V × PyData) => ∃ as, Reads h u p.2 as) us (its.zip ds) := by
  induction us generalizing its ds as with
  | nil => cases hr; cases its with
    | nil => exact .nil
    | cons _ _ => simp at hl
  | cons u us ih =>
    cases hr with
    | cons r1 r2 => cases its with
      | nil => simp at hl
      | cons v its => exact .cons ⟨_, r1⟩ (ih r2 (by simpa using hl))
theorem eachIs_vals {out : List Value} {ps : List (V × PyData)} (h : PySem.W.EachIs (fun (u : Value) (p : V × PyData) => RelV p.1 u) out ps) : Vals (ps.map Prod.fst) out := by
  induction h with
  | nil => exact .nil
  | cons r _ ih => exact .cons r ih
theorem dpAll_length {K : Fg} {H : Hp} : ∀ {vs : List V} {ds : List PyData}, DpAll K H vs ds → vs.length = ds.length
  | _, _, .nil => rfl
  | _, _, .cons _ r => congrArg (· + 1) (dpAll_length r)
theorem cr_sortD (hu : X.A.units + 64 < cLine) : CallR X (.builtin "sorted") (rSortD X.K) := by
  intro pins s σ H vs us Q I r h
  obtain ⟨p, its, ds, rfl, hs, hd, hal, hso, hdep, q⟩ := h
  obtain ⟨uts, rv, pl, hz⟩ := I.list hs
  rw [Vals.ref1 r]
  obtain ⟨as, hr⟩ := Dp.readsAll I ds its uts hd rv
  have hl := dpAll_length hd
  have hm : (its.zip ds).map Prod.snd = ds := by rw [List.map_snd_zip (by omega)]
  refine PySem.W.sorted_data (enc := Prod.snd) (bs := its.zip ds) (R := fun (u : Value) (p : V × PyData) => RelV p.1 u) pl.isList (eachIs_zip rv hl) (eachIs_reads hr hl) (by rw [hm]; exact hal) (by rw [hm]; exact hso) (by rw [List.length_zip]; omega) (fun b hb => ?_) fun out ho eo => ?_
  · have : b.2 ∈ ds := by rw [← hm]; exact List.mem_map_of_mem hb
    have := hdep _ this
    omega
  · obtain ⟨ep, he'⟩ := PyProof.Rows.sortedAll_at s.heap uts out.toArray
    have rv' := eachIs_vals eo
    have hlen : (((its.zip ds).mergeSort (PySem.W.dataLe false Prod.snd)).map Prod.fst).length ≤ sizeLine := by
      rw [List.length_map, List.length_mergeSort, List.length_zip]; omega
    exact ⟨.ref _, upd H (s.heap.objs.size + 1) (.lst (((its.zip ds).mergeSort (PySem.W.dataLe false Prod.snd)).map Prod.fst)), I.laid (t' := s.toks) (fun _ _ => PyProof.Rows.sortedAll_old) (Nat.le_succ _) ⟨hlen, out, ep, rv', he'⟩, rfl, q _ (I.hok.fresh (Nat.le_succ _))⟩
/-- sorted by <, equal ones as they stood -/
def sortB {α : Type} (lt : α → α → Bool) (xs : List α) : List α := xs.mergeSort fun x y => !lt y x
/-- tuples that are not empty, or no tuples -/
structure So (E : Enc α) : Prop where
  so : (∀ x, ∃ y r, E.enc x = .tuple (y :: r)) ∨ ∀ x, E.enc x ≠ .none ∧ ∀ r, E.enc x ≠ .tuple r
theorem soI : So eI := ⟨.inr fun _ => ⟨(fun h => by cases h), (fun _ h => by cases h)⟩⟩
theorem soT2 {A : Enc α} {B : Enc β} : So (eT2 A B) := ⟨.inl fun _ => ⟨_, _, rfl⟩⟩
theorem soT3 {γ : Type} {A : Enc α} {B : Enc β} {D : Enc γ} : So (eT3 A B D) := ⟨.inl fun _ => ⟨_, _, rfl⟩⟩
theorem soT4 {γ δ : Type} {A : Enc α} {B : Enc β} {D : Enc γ} {D' : Enc δ} : So (eT4 A B D D') := ⟨.inl fun _ => ⟨_, _, rfl⟩⟩
theorem zip_rep {K : Fg} {F : Hp} : ∀ {vs : List V} {xs : List α}, RepAll K F vs (xs.map E.enc) → (vs.zip (xs.map E.enc)) = (vs.zip xs).map fun p => (p.1, E.enc p.2)
  | [], _, _ => rfl
  | _ :: _, [], h => by cases h
  | v :: vs, x :: xs, h => by
    cases h with
    | cons h1 h2 =>
      show (v, E.enc x) :: vs.zip (xs.map E.enc) = (v, E.enc x) :: (vs.zip xs).map _
      rw [zip_rep h2]
theorem rep_zip {K : Fg} {F : Hp} : ∀ {vs : List V} {xs : List α}, RepAll K F vs (xs.map E.enc) → ∀ p ∈ vs.zip xs, Rep K F p.1 (E.enc p.2)
  | [], _, _, p, m => by simp at m
  | _ :: _, [], h, _, _ => by cases h
  | v :: vs, x :: xs, h, p, m => by
    cases h with
    | cons h1 h2 =>
      rcases List.mem_cons.mp m with rfl | m
      · exact h1
      · exact rep_zip h2 p m
theorem RepAll.of_pairs {K : Fg} {F : Hp} : ∀ (ps : List (V × α)), (∀ p ∈ ps, Rep K F p.1 (E.enc p.2)) → RepAll K F (ps.map Prod.fst) ((ps.map Prod.snd).map E.enc)
  | [], _ => .nil
  | p :: ps, h => .cons (h p List.mem_cons_self) (RepAll.of_pairs ps fun q m => h q (List.mem_cons_of_mem _ m))
theorem sort_pairs {K : Fg} {F : Hp} {lt : α → α → Bool} (od : Od E lt) {vs : List V} {xs : List α} (h : RepAll K F vs (xs.map E.enc)) :
    RepAll K F (((vs.zip (xs.map E.enc)).mergeSort (PySem.W.dataLe false Prod.snd)).map Prod.fst) ((sortB lt xs).map E.enc) := by
  have hl : vs.length = xs.length := by have := h.length; simpa using this
  have e0 : ((vs.zip xs).mergeSort fun p q => !lt q.2 p.2).map (fun p => (p.1, E.enc p.2)) = (vs.zip (xs.map E.enc)).mergeSort (PySem.W.dataLe false Prod.snd) := by
    rw [zip_rep h]
    refine PySem.W.sort_maps _ fun p _ q _ => ?_
    rw [PySem.W.dataLe_eq]
    show (!lt q.2 p.2) = !PySem.W.dataLt (E.enc q.2) (E.enc p.2)
    rw [od.lt]
  rw [← e0, List.map_map]
  have e1 : ((vs.zip xs).mergeSort fun p q => !lt q.2 p.2).map Prod.snd = sortB lt xs := by
    unfold sortB
    rw [PySem.W.sort_maps (s := fun x y => !lt y x) Prod.snd (fun p _ q _ => rfl), List.map_snd_zip (by omega)]
  rw [← e1]
  exact RepAll.of_pairs _ fun p m => rep_zip h p (List.mem_mergeSort.mp m)
theorem lx_sorted {lt : α → α → Bool} {n : Nat} {g : τ → List α} {f : (τ → P → Option Ω) → Option Ω} (hu : X.A.units + 64 < cLine) (od : Od E lt) (so : So E) (dt : Dt E n) (hv : LVw S (it E) g) (hm : X.mg "sorted" = none) (ha : LO X G env a S e' f) (hG : ∀ p, G (e' p)) (hn : n ≤ 60 := by decide) (hg : Gl X "sorted" := by rfl) (he : starEach (a :: []) X.env = (false, eval a X.env) :: starEach [] X.env := by rfl) (hpl : (backTo pos (starEach [] X.env)).any (·.1) = false := by rfl) :
    LX X env (.Call (.Name "sorted" np) [a] [] pos) (ls (it E)) e' (fun k => f fun x p => (some (sortB lt (g x))).bind fun y => k y p) :=
  lx_b1n (E := E) (g := fun x : τ => some (sortB lt (g x))) (cr_sortD hu) hm PyProof.Rows.boot_sorted ha hG (fun K F H fp v x y Q hK s hy r q => by
    subst hK
    cases hy
    obtain ⟨p, vs, fps, rfl, h1, h2⟩ := hv.view s r
    have rp := h2.zero.2
    have hd := dts dt (g x)
    refine ⟨p, vs, (g x).map E.enc, rfl, h1, rp.dp s hd.1, (od_all od (g x)).1, ?_, fun d m => by obtain ⟨y, _, rfl⟩ := List.mem_map.mp m; exact Nat.le_trans (dt.dep y) hn, fun t nt => q t _ nt (sort_pairs od rp)⟩
    rcases so.so with so | so
    · exact .inl fun d m => by obtain ⟨y, _, rfl⟩ := List.mem_map.mp m; exact so y
    · exact .inr fun d m => by obtain ⟨y, _, rfl⟩ := List.mem_map.mp m; exact so y) hg (by decide) (by decide) he hpl

/-! ### enumerate, zip -/
def enumL {α : Type} (xs : List α) : List (Int × α) := xs.zipIdx.map fun p => ((p.2 : Int), p.1)
theorem enumL_get {α : Type} (xs : List α) (i : Nat) : (enumL xs)[i]? = (xs[i]?).map fun x => ((i : Int), x) := by
  unfold enumL
  rw [List.getElem?_map, List.getElem?_zipIdx]
  cases xs[i]? <;> simp
theorem li_enum {f : (τ → P → Option Ω) → Option Ω} {g : τ → List α} {elts : List Expr} {kk : Nat} {tp p : Pos} (hg : Gl X "enumerate") (hm : X.mg "enumerate" = none) (hv : LVw S (it E) g) (h : LX X env a S e' f) (hs : starEach [a] X.env = [(false, eval a X.env)] := by rfl) (hs4 : starEach [a] X.env = (false, eval a X.env) :: starEach [] X.env := by rfl) :
    LI X env (.Tuple elts kk tp) (.Call (.Name "enumerate" p) [a] [] pos) (it (eT2 eI E)) e' (fun k => f fun x q => k (enumL (g x)) q) :=
  fun C F H σs es σ k ω R hK hl hr hk q => tI.of X (pi_enum hg hm (pa_cons (peC X) pa_nil hs4) hs) (h C F H σs es σ _ ω _ hK hl hr hk fun x p v F' H' hk' h' => by
    obtain ⟨v', fp, e1, r⟩ := h'.look (i := 0) rfl
    simp at e1; subst e1
    obtain ⟨p0, vs, fps, rfl, hs, ra⟩ := hv.view h'.sF r
    refine ⟨p0, vs, rfl, by rw [← hK]; exact hs, q (enumL (g x)) p (Ite X.K p0) F' H' [some (.ref p0)] [.st none τ S x] hk' h' ⟨rfl, fun i F2 H2 σ2 σb e2 eb hl2 h2 => ?_⟩⟩
    obtain ⟨v', fp', e1, r'⟩ := h2.look (i := e2.length + 0) (by rw [at_app _ rfl]; rfl)
    rw [at_app _ hl2] at e1
    simp at e1; subst e1
    obtain ⟨p1, ws, fps', e3, hs', ra'⟩ := hv.view h2.sF r'
    cases e3
    rw [hK] at hs'
    have rp := ra'.zero.2
    rw [enumL_get]
    refine ⟨fun y hy => ?_, fun hn => ?_⟩
    · cases hgi : (g x)[i]? with
      | none => rw [hgi] at hy; cases hy
      | some z =>
        rw [hgi] at hy
        cases hy
        obtain ⟨w, hw, rw'⟩ := rp.get (i := i) (d := E.enc z) (by rw [List.getElem?_map, hgi]; rfl)
        refine ⟨⟨ws, w, hs', hw⟩, fun v H' hy' => ?_⟩
        obtain ⟨T, w', rfl, nT, rfl, hy'⟩ := hy'
        have := hy' ws hs'
        rw [hw] at this; cases this
        refine ⟨upd F2 T (.tup [.int (i : Nat), w]), (h2.newF nT).pushSh ?_⟩
        exact .tup (SqT.of upd_same) (.cons (.int _) (.cons (rw'.mono (same_new (h2.fnone nT))) .nil))
    · refine ⟨ws, hs', ?_⟩
      have := rp.length
      simp at this
      cases hgi : (g x)[i]? with
      | none => have := List.getElem?_eq_none_iff.mp hgi; omega
      | some z => rw [hgi] at hn; cases hn)
theorem li_zip {fa : (τ1 → P1 → Option Ω) → Option Ω} {fb : P1 → (τ2 → P2 → Option Ω) → Option Ω} {g2 : τ2 → List β} {elts : List Expr} {kk : Nat} {tp p : Pos} (hg : Gl X "zip") (hm : X.mg "zip" = none) (hv : LVw S1 (it E) g1) (hv2 : LVw S2 (it Eb) g2) (h : LX X env a S1 e1 fa) (h2 : ∀ p1, LX X (e1 p1) b S2 (e2 p1) (fb p1))
    (hs : starEach [a, b] X.env = (false, eval a X.env) :: starEach [b] X.env := by rfl) (hs4 : starEach [b] X.env = (false, eval b X.env) :: starEach [] X.env := by rfl) (hpl : (backTo pos (starEach [b] X.env)).any (·.1) = false := by rfl) :
    LI X env (.Tuple elts kk tp) (.Call (.Name "zip" p) [a, b] [] pos) (it (eT2 E Eb)) (fun q : P1 × P2 => e2 q.1 q.2) (fun k => fa fun x p1 => fb p1 fun y p2 => k ((g1 x).zip (g2 y)) (p1, p2)) :=
  fun C F H σs es σ k ω R hK hl hr hk q => tI.of X (pi_zip hg hm (pa_cons (peC X) (pa_cons (peC X) pa_nil hs4) hs) hs hpl) (h C F H σs es σ _ ω _ hK hl hr hk fun x p1 v F1 H1 hk1 h1 =>
    h2 p1 C F1 H1 (some v :: σs) (.st none τ1 S1 x :: es) σ _ ω _ hK (by simp [hl]) h1 hk1 fun y p2 u F' H' hk' h' => by
      have h'' : ER C F' H' ([some u, some v] ++ (σs ++ σ)) ([.st none τ2 S2 y, .st none τ1 S1 x] ++ (es ++ e2 p1 p2)) := h'
      obtain ⟨u', fq, eq1, rq⟩ := h''.look (i := 0) rfl
      simp at eq1; subst eq1
      obtain ⟨v', fp, ev1, rv⟩ := h''.look (i := 1) rfl
      simp at ev1; subst ev1
      obtain ⟨pb, ws, fqs, rfl, hsb, rb⟩ := hv2.view h''.sF rq
      obtain ⟨pa, vs, fps, rfl, hsa, ra⟩ := hv.view h''.sF rv
      refine ⟨pa, pb, vs, ws, rfl, by rw [← hK]; exact hsa, by rw [← hK]; exact hsb, q ((g1 x).zip (g2 y)) (p1, p2) (Itz X.K pa pb) F' H' [some (.ref pb), some (.ref pa)] [.st none τ2 S2 y, .st none τ1 S1 x] hk' h'' ⟨rfl, fun i F2 H2 σ2 σb e2' eb hl2 h3 => ?_⟩⟩
      obtain ⟨u', fq', eq1, rq'⟩ := h3.look (i := e2'.length + 0) (by rw [at_app _ rfl]; rfl)
      rw [at_app _ hl2] at eq1
      simp at eq1; subst eq1
      obtain ⟨v', fp', ev1, rv'⟩ := h3.look (i := e2'.length + 1) (by rw [at_app _ rfl]; rfl)
      rw [at_app _ hl2] at ev1
      simp at ev1; subst ev1
      obtain ⟨pb', ws', fqs', e5, hsb', rb'⟩ := hv2.view h3.sF rq'
      obtain ⟨pa', vs', fps', e6, hsa', ra'⟩ := hv.view h3.sF rv'
      cases e5; cases e6
      rw [hK] at hsb' hsa'
      have rpb := rb'.zero.2
      have rpa := ra'.zero.2
      have lb := rpb.length
      have la := rpa.length
      simp at lb la
      refine ⟨fun z hz => ?_, fun hn => ?_⟩
      · rw [List.getElem?_zip_eq_some] at hz
        obtain ⟨hz1, hz2⟩ := hz
        obtain ⟨w1, hw1, rw1⟩ := rpa.get (i := i) (d := E.enc z.1) (by rw [List.getElem?_map, hz1]; rfl)
        obtain ⟨w2, hw2, rw2⟩ := rpb.get (i := i) (d := Eb.enc z.2) (by rw [List.getElem?_map, hz2]; rfl)
        refine ⟨⟨vs', ws', w1, w2, hsa', hsb', hw1, hw2⟩, fun v H' hy' => ?_⟩
        obtain ⟨T, x1, x2, rfl, nT, rfl, hy1, hy2⟩ := hy'
        have t1 := hy1 vs' hsa'
        have t2 := hy2 ws' hsb'
        rw [hw1] at t1; cases t1
        rw [hw2] at t2; cases t2
        refine ⟨upd F2 T (.tup [w1, w2]), (h3.newF nT).pushSh ?_⟩
        have sm := same_new (u := HO.tup [w1, w2]) (h3.fnone nT)
        exact .tup (SqT.of upd_same) (.cons (rw1.mono sm) (.cons (rw2.mono sm) .nil))
      · refine ⟨vs', ws', hsa', hsb', ?_⟩
        have := List.getElem?_eq_none_iff.mp hn
        rw [List.length_zip] at this
        omega)
end
section
variable {X : Cx} {R I Ω : Type} {SR : Stor R} {envR : I → Env} {kr : R → I → Option Ω} {bk ct : Lp Ω} {env : Env} {nm : Str} {pos : Pos} {e : Expr} {rest : List Stmt} {P : Type} {τ α : Type} {S : Stor τ} {E : Enc α} {e' : P → Env} {J : Type} {envJ : J → Env} {g : τ → List α}
/-- x.extend(ys), x a list of one's own -/
theorem lb_ext {f : (τ → P → Option Ω) → Option Ω} {fr : τ → P → (J → Option Ω) → Option Ω} {w : Option V} {x0 : List α} {xs : P → List α} {ap cp np : Pos} (i : Nat) (h0 : env[i]? = some (.st w (List α) (ls (it E)) x0)) (hvw : LVm S (it E) g)
    (he : LX X env e S e' f) (h1 : ∀ p, (e' p)[i]? = some (.st w (List α) (ls (it E)) (xs p))) (hr : ∀ y p, LB X SR envR kr bk ct ((e' p).set i (.st w (List α) (ls (it E)) (xs p ++ g y))) rest envJ (fr y p))
    (hN : X.N[i]? = some nm := by rfl) (hv : Vis X.env.scope nm := by first | exact Or.inl rfl | exact Or.inr (Or.inl rfl) | exact Or.inr (Or.inr rfl))
    (hd : (nm == ("__debug__" : Str)) = false := by decide) (hcd : (nm == ("__classdict__" : Str)) = false := by decide)
    (hbase : attributeBase (.Name nm np) "extend" X.env (eval (.Name nm np) X.env) = eval (.Name nm np) X.env := by rfl)
    (hfew : ((backTo cp (starEach [e] X.env)).all (fun x => !x.1) && (backToKw cp (keywordEach [] X.env)).all (fun x => x.1.isSome) && decide ([e].length + ([] : List Keyword).length + (if ([] : List Keyword).isEmpty then 0 else 1) < 30)) = true := by rfl)
    (hline : (ap.endLine == cp.line) = true := by rfl) (hse : starEach [e] X.env = (false, eval e X.env) :: starEach [] X.env := by rfl) (hplain : (backTo cp (starEach [] X.env)).any (·.1) = false := by rfl)
    (hsw : swapsWith (.Call (.Attribute (.Name nm np) "extend" ap) [e] [] cp) none pos.line X.env = pure false := by rfl) :
    LB X SR envR kr bk ct env (.Expr (.Call (.Attribute (.Name nm np) "extend" ap) [e] [] cp) pos :: rest) envJ (fun kn => f fun y p => ck (decide ((xs p).length + (g y).length ≤ SZ)) (fr y p kn)) :=
  fun C F H σs es σ kn ω D hK hl h hk qn qb qc qr => tSs.of X (pss_cons (ps_expr (pe_bm PySem.F.plainAttrs_list PySem.F.slot_list_extend PySem.F.type_list_extend mt_extend (pe_var hN hv hd hcd) (pa_cons (peC X) pa_nil hse) hbase hfew hline hse hplain) hsw) (pssC X)) (by
    obtain ⟨l, fp, e1, r⟩ := h.lookF hl h0
    obtain ⟨q0, vs0, fps0, rfl, hq0, _, _⟩ := r
    refine ⟨_, e1, .inl ⟨rfl, vs0, SqL.of hq0⟩, he C F H σs es σ _ ω _ hK hl h hk fun y p v F' H' hk' h' => ?_⟩
    obtain ⟨hc, hk'⟩ := ck_some hk'
    have hc' := of_decide_eq_true hc
    obtain ⟨v', fpy, ey, ry⟩ := h'.look (i := 0) rfl
    simp at ey; subst ey
    obtain ⟨pb, zs, fps, rfl, hb, rb⟩ := hvw.view h'.sF ry
    have rpb := rb.zero.2
    obtain ⟨l', fp', e4, r1, nd, ow, fin⟩ := (ER.pop h').mut (i := es.length + i) (by rw [at_app _ rfl]; exact h1 p)
    rw [at_app _ hl, e1] at e4
    cases e4
    obtain ⟨q1, vs, fps', e5, hq, ra, rfl⟩ := r1
    cases e5
    obtain ⟨rfl, rp⟩ := ra.zero
    have n1 : vs.length = (xs p).length := by have := rp.length; simpa using this
    have n2 : zs.length = (g y).length := by have := rpb.length; simpa using this
    refine ⟨q0, pb, vs, zs, rfl, rfl, hq, hb, by rw [SZ_eq]; omega, ?_⟩
    have fin' := fin (List α) (ls (it E)) (xs p ++ g y) (upd H' q0 (.lst (vs ++ zs))) [q0] (fun a na _ => upd_ne fun z => na (by rw [z]; simp)) (fun a m => ?_) ⟨q0, vs ++ zs, [], rfl, upd_same, ?_, rfl⟩ (by simp) (fun a m => ?_)
    · rw [List.set_append_right _ _ (Nat.le_add_right _ _), Nat.add_sub_cancel_left] at fin'
      exact hr y p C F' _ σs es σ kn ω D hK hl fin' hk' qn qb qc qr
    · by_cases z : a = q0
      · subst z; rw [upd_same]; exact fun z => by cases z
      · rw [upd_ne z]; exact m
    · have := rp.app rpb
      rw [← List.map_append] at this
      exact this.zero
    · simp at m; subst m
      exact ⟨by rw [upd_same]; exact (fun z => by cases z), .inl (by simp)⟩)
end
/-! ### the script; the last step -/
theorem lv_scr : LVw scr (it eI) id := ⟨fun {K F H fp v x} s r => by
  obtain ⟨_, a, rfl, q⟩ := r
  exact ⟨a, _, [], rfl, s.seq q, (RepAll.ofInts x).zero⟩⟩
theorem lb_use {X : Cx} {R I Ω J : Type} {SR : Stor R} {envR : I → Env} {kr : R → I → Option Ω} {bk ct : Lp Ω} {env : Env} {sts : List Stmt} {envJ : J → Env} {f f' : (J → Option Ω) → Option Ω} (h : LB X SR envR kr bk ct env sts envJ f) (e : f = f') : LB X SR envR kr bk ct env sts envJ f' := e ▸ h
theorem lx_use {X : Cx} {Ω P τ : Type} {S : Stor τ} {env : Env} {e : Expr} {env' : P → Env} {f f' : (τ → P → Option Ω) → Option Ω} (h : LX X env e S env' f) (q : f = f') : LX X env e S env' f' := q ▸ h
end Z

set_option Elab.async false
set_option linter.all false
set_option maxRecDepth 100000
namespace Z
open PySem PySem.Spec PyProof.Rows L2

/-! ### a state [n, cells]: a list that holds an int and a list of ints of its own -/
abbrev TSt := Int × List Int
def stT : Stor TSt where
  rel := fun _ _ H fp v t => ∃ p q, v = .ref p ∧ H p = some (.lst [.int t.1, .ref q]) ∧ H q = some (.lst (t.2.map V.int)) ∧ fp = [p, q]
  monoF := fun _ h => h
  frame := fun f h => by
    obtain ⟨p, q, rfl, h1, h2, rfl⟩ := h
    exact ⟨p, q, rfl, by rw [f p (by simp)]; exact h1, by rw [f q (by simp)]; exact h2, rfl⟩
/-- the same without the list: it stands at q -/
def stA (q : Addr) : Stor Int where
  rel := fun _ _ H fp v n => ∃ p, v = .ref p ∧ H p = some (.lst [.int n, .ref q]) ∧ fp = [p]
  monoF := fun _ h => h
  frame := fun f h => by
    obtain ⟨p, rfl, h1, rfl⟩ := h
    exact ⟨p, rfl, by rw [f p (by simp)]; exact h1, rfl⟩
section
variable {C : Ck} {F H : Hp} {σ : List (Option V)} {env : Env}
/-- the list of a state under a name of its own -/
theorem ER.split {i j : Nat} {w : V} {t : TSt} (h : ER C F H σ env) (e : env[i]? = some (.st (some w) TSt stT t)) (ej : env[j]? = some .un) : ∃ p q, σ[i]? = some (some (.ref p)) ∧ H p = some (.lst [.int t.1, .ref q]) ∧
    ER C F H (σ.set j (some (.ref q))) ((env.set i (.st (some w) Int (stA q) t.1)).set j (.st (some (.ref q)) (List Int) (ls (it eI)) t.2)) := by
  obtain ⟨fp, k⟩ := h.sl
  have hi := lt_of_get e
  have hj := lt_of_get ej
  have ne : i ≠ j := fun z => by subst z; rw [e] at ej; cases ej
  obtain ⟨v, e1, ⟨p, q, rfl, h1, h2, hf⟩, e2, k2⟩ := k.ok i _ e
  have e1' : σ[i]? = some (some (.ref p)) := by
    cases z : σ[i]? with
    | none => rw [z] at e1; cases e1
    | some o => rw [z] at e1; exact congrArg some e1
  have own := k.own i hi
  have nd := k.nd i hi
  rw [hf] at own nd k2
  have hpq : p ≠ q := by simpa using nd
  have mem : ∀ a, (a = p ∨ a = q) → a ∈ fp i := fun a m => by rw [hf]; simpa using m
  refine ⟨p, q, e1', h1, h.sB, h.sF, h.gr, h.up, by simp [h.len], fun l => if l = i then [p] else if l = j then [q] else fp l, fun l s el => ?_, fun l hl a ha => ?_, fun l m hl hm a ha hb => ?_, fun l hl => ?_⟩
  · by_cases zj : l = j
    · subst zj
      rw [List.getElem?_set_self (by simpa using hj)] at el
      cases el
      simp only [if_neg (fun z : l = i => ne z.symm), if_pos]
      have hls : l < σ.length := by rw [h.len]; exact hj
      refine ⟨.ref q, by rw [List.getElem?_set_self hls]; rfl, ⟨q, t.2.map V.int, [], rfl, h2, (RepAll.ofInts t.2).zero, rfl⟩, rfl, fun a m => ?_⟩
      simp at m; subst m
      exact k2 a (by simp)
    · rw [List.getElem?_set_ne (fun z => zj z.symm)] at el
      by_cases zi : l = i
      · subst zi
        rw [List.getElem?_set_self hi] at el
        cases el
        simp only [if_pos]
        refine ⟨.ref p, by rw [List.getElem?_set_ne (fun z => zj z.symm)]; exact e1, ⟨p, rfl, h1, rfl⟩, e2, fun a m => ?_⟩
        simp at m; subst m
        exact k2 a (by simp)
      · rw [List.getElem?_set_ne (fun z => zi z.symm)] at el
        simp only [if_neg zi, if_neg zj]
        rw [List.getElem?_set_ne (fun z => zj z.symm)]
        exact k.ok l s el
  · have hl' : l < env.length := by simpa using hl
    by_cases zi : l = i
    · simp only [if_pos zi] at ha
      simp at ha; subst ha
      exact own a (by simp)
    · simp only [if_neg zi] at ha
      by_cases zj : l = j
      · simp only [if_pos zj] at ha
        simp at ha; subst ha
        exact own a (by simp)
      · simp only [if_neg zj] at ha
        exact k.own l hl' a ha
  · have hl' : l < env.length := by simpa using hl
    have hm' : m < env.length := by simpa using hm
    have cl : ∀ l, l < env.length → a ∈ (if l = i then [p] else if l = j then [q] else fp l) → (l = i ∧ a = p) ∨ (l = j ∧ a = q) ∨ (l ≠ i ∧ l ≠ j ∧ a ∈ fp l) := fun l hl ha => by
      by_cases zi : l = i
      · simp only [if_pos zi] at ha; simp at ha; exact .inl ⟨zi, ha⟩
      · simp only [if_neg zi] at ha
        by_cases zj : l = j
        · simp only [if_pos zj] at ha; simp at ha; exact .inr (.inl ⟨zj, ha⟩)
        · simp only [if_neg zj] at ha; exact .inr (.inr ⟨zi, zj, ha⟩)
    rcases cl l hl' ha with ⟨a1, a2⟩ | ⟨a1, a2⟩ | ⟨a1, a2, a3⟩
    · rcases cl m hm' hb with ⟨b1, b2⟩ | ⟨b1, b2⟩ | ⟨b1, b2, b3⟩
      · rw [a1, b1]
      · exact absurd (a2.symm.trans b2) hpq
      · exact absurd (k.sep m i hm' hi a b3 (mem a (.inl a2))) b1
    · rcases cl m hm' hb with ⟨b1, b2⟩ | ⟨b1, b2⟩ | ⟨b1, b2, b3⟩
      · exact absurd (b2.symm.trans a2) hpq
      · rw [a1, b1]
      · exact absurd (k.sep m i hm' hi a b3 (mem a (.inr a2))) b1
    · rcases cl m hm' hb with ⟨b1, b2⟩ | ⟨b1, b2⟩ | ⟨b1, b2, b3⟩
      · exact absurd (k.sep l i hl' hi a a3 (mem a (.inl b2))) a1
      · exact absurd (k.sep l i hl' hi a a3 (mem a (.inr b2))) a1
      · exact k.sep l m hl' hm' a a3 b3
  · have hl' : l < env.length := by simpa using hl
    by_cases zi : l = i
    · simp only [if_pos zi]; simp
    · simp only [if_neg zi]
      by_cases zj : l = j
      · simp only [if_pos zj]; simp
      · simp only [if_neg zj]; exact k.nd l hl'
/-- .. and together again -/
theorem ER.join {i j : Nat} {w : V} {q : Addr} {n : Int} {cs : List Int} (h : ER C F H σ env) (e : env[i]? = some (.st (some w) Int (stA q) n)) (ej : env[j]? = some (.st (some (.ref q)) (List Int) (ls (it eI)) cs)) :
    ER C F H σ ((env.set i (.st (some w) TSt stT (n, cs))).set j .un) := by
  obtain ⟨fp, k⟩ := h.sl
  have hi := lt_of_get e
  have hj := lt_of_get ej
  obtain ⟨v, e1, ⟨p, rfl, h1, hf⟩, e2, k2⟩ := k.ok i _ e
  obtain ⟨u, u1, ⟨q', vs, fps, rfl, h2, ra, hg⟩, u2, u3⟩ := k.ok j _ ej
  have hq : q' = q := by cases u2; rfl
  subst hq
  obtain ⟨rfl, rp⟩ := ra.zero
  have hv := rp.ints
  subst hv
  have ne : i ≠ j := fun z => by
    subst z
    rw [e1] at u1
    have e3 : p = q' := by
      have := Option.some.inj u1
      cases this; rfl
    subst e3
    rw [h1] at h2
    have e4 := Option.some.inj h2
    have e5 : [V.int n, V.ref p] = cs.map V.int := by injection e4
    cases cs with
    | nil => simp at e5
    | cons a cs => cases cs with
      | nil => simp at e5
      | cons b cs => simp at e5
  have ownp := k.own i hi p (by rw [hf]; simp)
  have ownq := k.own j hj q' (by rw [hg]; simp)
  have hpq : p ≠ q' := fun z => by
    subst z
    exact ne (k.sep i j hi hj p (by rw [hf]; simp) (by rw [hg]; simp))
  refine ⟨h.sB, h.sF, h.gr, h.up, by simp [h.len], fun l => if l = i then [p, q'] else if l = j then [] else fp l, fun l s el => ?_, fun l hl a ha => ?_, fun l m hl hm a ha hb => ?_, fun l hl => ?_⟩
  · by_cases zj : l = j
    · subst zj
      rw [List.getElem?_set_self (by simpa using hj)] at el
      cases el
      simp only [if_neg (fun z : l = i => ne z.symm), if_pos]
      rfl
    · rw [List.getElem?_set_ne (fun z => zj z.symm)] at el
      by_cases zi : l = i
      · subst zi
        rw [List.getElem?_set_self hi] at el
        cases el
        simp only [if_pos]
        refine ⟨.ref p, e1, ⟨p, q', rfl, h1, h2, rfl⟩, e2, fun a m => ?_⟩
        simp at m
        rcases m with rfl | rfl
        · exact k2 a (by rw [hf]; simp)
        · exact u3 a (by rw [hg]; simp)
      · rw [List.getElem?_set_ne (fun z => zi z.symm)] at el
        simp only [if_neg zi, if_neg zj]
        exact k.ok l s el
  · have hl' : l < env.length := by simpa using hl
    by_cases zi : l = i
    · simp only [if_pos zi] at ha
      simp at ha
      rcases ha with rfl | rfl
      · exact ownp
      · exact ownq
    · simp only [if_neg zi] at ha
      by_cases zj : l = j
      · simp [if_pos zj] at ha
      · simp only [if_neg zj] at ha
        exact k.own l hl' a ha
  · have hl' : l < env.length := by simpa using hl
    have hm' : m < env.length := by simpa using hm
    have cl : ∀ l, l < env.length → a ∈ (if l = i then [p, q'] else if l = j then [] else fp l) → (l = i ∧ (a ∈ fp i ∨ a ∈ fp j)) ∨ (l ≠ i ∧ l ≠ j ∧ a ∈ fp l) := fun l hl ha => by
      by_cases zi : l = i
      · simp only [if_pos zi] at ha; simp at ha
        refine .inl ⟨zi, ?_⟩
        rcases ha with rfl | rfl
        · exact .inl (by rw [hf]; simp)
        · exact .inr (by rw [hg]; simp)
      · simp only [if_neg zi] at ha
        by_cases zj : l = j
        · simp [if_pos zj] at ha
        · simp only [if_neg zj] at ha; exact .inr ⟨zi, zj, ha⟩
    rcases cl l hl' ha with ⟨a1, a2⟩ | ⟨a1, a2, a3⟩
    · rcases cl m hm' hb with ⟨b1, b2⟩ | ⟨b1, b2, b3⟩
      · rw [a1, b1]
      · rcases a2 with a2 | a2
        · exact absurd (k.sep m i hm' hi a b3 a2) b1
        · exact absurd (k.sep m j hm' hj a b3 a2) b2
    · rcases cl m hm' hb with ⟨b1, b2⟩ | ⟨b1, b2, b3⟩
      · rcases b2 with b2 | b2
        · exact absurd (k.sep l i hl' hi a a3 b2) a1
        · exact absurd (k.sep l j hl' hj a a3 b2) a2
      · exact k.sep l m hl' hm' a a3 b3
  · have hl' : l < env.length := by simpa using hl
    by_cases zi : l = i
    · simp only [if_pos zi]; simp [hpq]
    · simp only [if_neg zi]
      by_cases zj : l = j
      · simp [if_pos zj]
      · simp only [if_neg zj]; exact k.nd l hl'
/-- a new state of a number and a list -/
theorem ER.joinTop {p q : Addr} {n : Int} {cs : List Int} (h : ER C F H (some (.ref p) :: some (.ref q) :: σ) (.st none Int (stA q) n :: .st none (List Int) (ls (it eI)) cs :: env)) : ER C F H (some (.ref p) :: σ) (.st none TSt stT (n, cs) :: env) := by
  obtain ⟨fp, k⟩ := h.sl
  obtain ⟨v, e1, ⟨p', rfl, h1, hf⟩, k2⟩ := k.ok 0 _ rfl
  simp at e1; subst e1
  obtain ⟨u, u1, ⟨q', vs, fps, rfl, h2, ra, hg⟩, u3⟩ := k.ok 1 _ rfl
  simp at u1; subst u1
  obtain ⟨rfl, rp⟩ := ra.zero
  have hv := rp.ints
  subst hv
  have l0 : 0 < (Slot.st none Int (stA q) n :: Slot.st none (List Int) (ls (it eI)) cs :: env).length := by simp
  have l1 : 1 < (Slot.st none Int (stA q) n :: Slot.st none (List Int) (ls (it eI)) cs :: env).length := by simp
  have ownp := k.own 0 l0 p (by rw [hf]; simp)
  have ownq := k.own 1 l1 q (by rw [hg]; simp)
  have hpq : p ≠ q := fun z => by
    subst z
    have := k.sep 0 1 l0 l1 p (by rw [hf]; simp) (by rw [hg]; simp)
    omega
  have hp := h.pop.pop
  refine ⟨hp.sB, hp.sF, hp.gr, hp.up, by simp [hp.len], _, Fps.push (fp := fun l => fp (l + 2)) ⟨fun l s el => ?_, fun l hl a ha => ?_, fun l m hl hm a ha hb => ?_, fun l hl => ?_⟩ (fq := [p, q]) ⟨_, rfl, ⟨p, q, rfl, h1, h2, rfl⟩, fun a m => ?_⟩ (fun a m => ?_) (by simp [hpq]) fun l hl a ha m => ?_⟩
  · have := k.ok (l + 2) s (by simpa using el)
    simpa using this
  · exact k.own (l + 2) (by simpa using hl) a ha
  · have := k.sep (l + 2) (m + 2) (by simpa using hl) (by simpa using hm) a ha hb
    omega
  · exact k.nd (l + 2) (by simpa using hl)
  · simp at m
    rcases m with rfl | rfl
    · exact k2 a (by rw [hf]; simp)
    · exact u3 a (by rw [hg]; simp)
  · simp at m
    rcases m with rfl | rfl
    · exact ownp
    · exact ownq
  · simp at m
    rcases m with rfl | rfl
    · have := k.sep (l + 2) 0 (by simpa using hl) l0 a ha (by rw [hf]; simp); omega
    · have := k.sep (l + 2) 1 (by simpa using hl) l1 a ha (by rw [hg]; simp); omega
end
section
variable {X : Cx} {R I Ω : Type} {SR : Stor R} {envR : I → Env} {kr : R → I → Option Ω} {bk ct : Lp Ω} {env : Env} {nm nm2 : Str} {pos : Pos} {a b e : Expr} {rest : List Stmt} {P P1 P2 : Type} {J : Type} {envJ : J → Env} {e' : P → Env} {e1 : P1 → Env} {e2 : P1 → P2 → Env}
/-- cells = state[1] -/
theorem lb_alias {f : (J → Option Ω) → Option Ω} {w : V} {t : TSt} {p1 p2 cp sp : Pos} {k : Nat} (i j : Nat) (hN : X.N.Nodup) (he : env[i]? = some (.st (some w) TSt stT t)) (hj : env[j]? = some .un)
    (hr : ∀ q, LB X SR envR kr bk ct ((env.set i (.st (some w) Int (stA q) t.1)).set j (.st (some (.ref q)) (List Int) (ls (it eI)) t.2)) rest envJ f)
    (hi : X.N[i]? = some nm := by rfl) (hv_nm : Vis X.env.scope nm := by first | exact Or.inl rfl | exact Or.inr (Or.inl rfl) | exact Or.inr (Or.inr rfl)) (hd : (nm == ("__debug__" : Str)) = false := by decide) (hcd : (nm == ("__classdict__" : Str)) = false := by decide)
    (hi2 : X.N[j]? = some nm2 := by rfl) (hx : Loc X.env.scope nm2 := by first | exact Or.inl rfl | exact Or.inr rfl) (hf : X.fn nm2 = true ∨ X.env.scope.names.lookup nm2 = some .local := by first | exact .inl rfl | exact .inr rfl)
    (hs : swapsWith (.Subscript (.Name nm p1) (.Constant (.int 1) k cp) sp) (some (.Name nm2 p2)) pos.line X.env = pure false := by rfl) :
    LB X SR envR kr bk ct env (.Assign [.Name nm2 p2] (.Subscript (.Name nm p1) (.Constant (.int 1) k cp) sp) pos :: rest) envJ f :=
  fun C F H σs es σ kn ω D hK hl h hk qn qb qc qr => tSs.of X (pss_cons (ps_set hN hi2 hx (pe_ix ix_list (pe_var hi hv_nm hd hcd) pe_int fun _ _ => rfl) hs hf) (pssC X)) (by
    obtain ⟨p, q, s1, h1, h2⟩ := h.split (i := es.length + i) (j := es.length + j) (by rw [at_app _ rfl]; exact he) (by rw [at_app _ rfl]; exact hj)
    rw [at_app _ hl] at s1
    rw [← hl, List.set_append_right _ _ (Nat.le_add_right _ _), Nat.add_sub_cancel_left, hl, List.set_append_right _ _ (Nat.le_add_right _ _), Nat.add_sub_cancel_left, List.set_append_right _ _ (Nat.le_add_right _ _), Nat.add_sub_cancel_left] at h2
    exact ⟨_, s1, p, [.int t.1, .ref q], 1, .ref q, rfl, rfl, SqL.of h1, rfl, hr q C F H σs es _ kn ω D hK hl h2 hk qn qb qc qr⟩)
/-- the list is the state's again -/
theorem lb_join {sts : List Stmt} {f : (J → Option Ω) → Option Ω} {w : V} {q : Addr} {n : Int} {cs : List Int} (i j : Nat) (he : env[i]? = some (.st (some w) Int (stA q) n)) (hj : env[j]? = some (.st (some (.ref q)) (List Int) (ls (it eI)) cs))
    (hr : LB X SR envR kr bk ct ((env.set i (.st (some w) TSt stT (n, cs))).set j .un) sts envJ f) : LB X SR envR kr bk ct env sts envJ f :=
  fun C F H σs es σ kn ω D hK hl h hk qn qb qc qr => by
    have h2 := h.join (i := es.length + i) (j := es.length + j) (by rw [at_app _ rfl]; exact he) (by rw [at_app _ rfl]; exact hj)
    rw [List.set_append_right _ _ (Nat.le_add_right _ _), Nat.add_sub_cancel_left, List.set_append_right _ _ (Nat.le_add_right _ _), Nat.add_sub_cancel_left] at h2
    exact hr C F H σs es σ kn ω D hK hl h2 hk qn qb qc qr
/-- state[0] -/
theorem lx_st0 {w : Option V} {q : Addr} {n : Int} {p1 cp sp : Pos} {k : Nat} (i : Nat) (he : env[i]? = some (.st w Int (stA q) n)) (hi : X.N[i]? = some nm := by rfl) (hv_nm : Vis X.env.scope nm := by first | exact Or.inl rfl | exact Or.inr (Or.inl rfl) | exact Or.inr (Or.inr rfl)) (hd : (nm == ("__debug__" : Str)) = false := by decide) (hcd : (nm == ("__classdict__" : Str)) = false := by decide) :
    LX X env (.Subscript (.Name nm p1) (.Constant (.int 0) k cp) sp) (it eI) (fun _ : Unit => env) (fun (k : Int → Unit → Option Ω) => k n ()) :=
  fun C F H σs es σ k ω Q hK hl h hk q => tE.of X (pe_ix ix_list (pe_var hi hv_nm hd hcd) pe_int fun _ _ => rfl) (by
    obtain ⟨v, fp, e1, p, rfl, h1, _⟩ := h.lookF hl he
    exact ⟨_, e1, p, _, 0, .int n, rfl, rfl, SqL.of h1, rfl, q n () _ F H hk (h.pushSh (.int n))⟩)
/-- state[0] = e -/
theorem lb_st0 {f : (Int → P → Option Ω) → Option Ω} {fr : Int → P → (J → Option Ω) → Option Ω} {w : Option V} {q : Addr} {n : P → Int} {p1 cp sp : Pos} {k : Nat} (i : Nat) (he : LX X env e (it eI) e' f) (h1 : ∀ p, (e' p)[i]? = some (.st w Int (stA q) (n p)))
    (hr : ∀ y p, LB X SR envR kr bk ct ((e' p).set i (.st w Int (stA q) y)) rest envJ (fr y p)) (hi : X.N[i]? = some nm := by rfl) (hv_nm : Vis X.env.scope nm := by first | exact Or.inl rfl | exact Or.inr (Or.inl rfl) | exact Or.inr (Or.inr rfl)) (hd : (nm == ("__debug__" : Str)) = false := by decide) (hcd : (nm == ("__classdict__" : Str)) = false := by decide)
    (ha : ∀ v, assign (.Subscript (.Name nm p1) (.Constant (.int 0) k cp) sp) X.env v = (do
      let ov ← holding [v] (eval (.Name nm p1) X.env)
      let iv ← holding [v, ov] (eval (.Constant (.int 0) k cp) X.env)
      standAt sp
      holding [v, ov, iv] (setItem ov iv v)
      release [v, ov, iv] []) := by intro _; rfl)
    (hs : swapsWithSole [.Subscript (.Name nm p1) (.Constant (.int 0) k cp) sp] e pos.line X.env = pure false := by rfl) (hw : swappedStores [.Subscript (.Name nm p1) (.Constant (.int 0) k cp) sp] e X.env = pure none := by rfl) (ha1 : (assignEach [.Subscript (.Name nm p1) (.Constant (.int 0) k cp) sp] X.env).map (·.2) = [assign (.Subscript (.Name nm p1) (.Constant (.int 0) k cp) sp) X.env] := by rfl) :
    LB X SR envR kr bk ct env (.Assign [.Subscript (.Name nm p1) (.Constant (.int 0) k cp) sp] e pos :: rest) envJ (fun kn => f fun y p => fr y p kn) :=
  fun C F H σs es σ kn ω D hK hl h hk qn qb qc qr => tSs.of X (pss_cons (ps_asg (peC X) (pg_sub (pe_var hi hv_nm hd hcd) pe_int set_list ha) hs hw ha1) (pssC X)) (he C F H σs es σ _ ω _ hK hl h hk fun y p v F' H' hk' h' => by
    have hvy : v = .int y := by
      obtain ⟨v', fp, e1, r⟩ := h'.look (i := 0) rfl
      simp at e1; subst e1
      obtain ⟨_, r⟩ := r
      cases r; rfl
    subst hvy
    obtain ⟨l, fp, e1, r1, nd, ow, fin⟩ := (ER.pop h').mut (i := es.length + i) (by rw [at_app _ rfl]; exact h1 p)
    rw [at_app _ hl] at e1
    obtain ⟨p0, rfl, h2, rfl⟩ := r1
    refine ⟨_, e1, p0, _, 0, 0, rfl, rfl, h2, rfl, ?_⟩
    have fin' := fin Int (stA q) y (upd H' p0 (.lst [.int y, .ref q])) [p0] (fun a na _ => upd_ne fun z => na (by rw [z]; simp)) (fun a m => ?_) ⟨p0, rfl, upd_same, rfl⟩ (by simp) (fun a m => ?_)
    · rw [List.set_append_right _ _ (Nat.le_add_right _ _), Nat.add_sub_cancel_left] at fin'
      exact hr y p C F' _ σs es σ kn ω D hK hl fin' hk' qn qb qc qr
    · by_cases z : a = p0
      · subst z; rw [upd_same]; exact fun z => by cases z
      · rw [upd_ne z]; exact m
    · simp at m; subst m
      exact ⟨by rw [upd_same]; exact (fun z => by cases z), .inl (by simp)⟩)
/-- [n, cells] -/
theorem lx_st {fa : (Int → P1 → Option Ω) → Option Ω} {fb : P1 → (List Int → P2 → Option Ω) → Option Ω} (ha : LX X env a (it eI) e1 fa) (hb : ∀ p, LX X (e1 p) b (ls (it eI)) (e2 p) (fb p))
    (hs : starEach [a, b] X.env = (false, eval a X.env) :: starEach [b] X.env := by rfl) (hs2 : starEach [b] X.env = (false, eval b X.env) :: starEach [] X.env := by rfl) :
    LX X env (.List [a, b] pos) stT (fun p : P1 × P2 => e2 p.1 p.2) (fun k => fa fun x p1 => fb p1 fun y p2 => k (x, y) (p1, p2)) :=
  fun C F H σs es σ k ω Q hK hl h hk q => tE.of X (pe_lst (pa_cons (peC X) (pa_cons (peC X) pa_nil hs2) hs)) (ha C F H σs es σ _ ω _ hK hl h hk fun x p1 v F1 H1 hk1 h1 =>
    hb p1 C F1 H1 (some v :: σs) (.st none Int (it eI) x :: es) σ _ ω _ hK (by simp [hl]) h1 hk1 fun y p2 u F2 H2 hk2 h2 => by
      have hvx : v = .int x := by
        obtain ⟨v', fp, e1, r⟩ := h2.look (i := 1) rfl
        simp at e1; subst e1
        obtain ⟨_, r⟩ := r
        cases r; rfl
      subst hvx
      obtain ⟨u', fp, e1, q0, vs, fps, rfl, hq, _, _⟩ := h2.look (i := 0) rfl
      simp at e1; subst e1
      refine ⟨by show 2 ≤ sizeLine; rw [SZ_eq]; decide, fun t nt => ?_⟩
      have z2 : ER C F2 H2 ([some (.ref q0)] ++ some (.int x) :: (σs ++ σ)) ([.st none (List Int) (ls (it eI)) y] ++ .st none Int (it eI) x :: (es ++ e2 p1 p2)) := h2
      have h3 : ER C F2 H2 (some (.ref q0) :: (σs ++ σ)) (.st none (List Int) (ls (it eI)) y :: (es ++ e2 p1 p2)) := ER.pop (ER.rot z2 rfl)
      have h4 := h3.newOw (S := stA q0) (x := x) (v := .ref t) nt ⟨t, rfl, upd_same, rfl⟩
      exact q (x, y) (p1, p2) (.ref t) F2 _ hk2 h4.joinTop)
/-- x, y = a, b -/
theorem lb_par {τ1 τ2 : Type} {S1 : Stor τ1} {S2 : Stor τ2} {f : ((τ1 × τ2 × Unit) → P → Option Ω) → Option Ω} {fr : τ1 → τ2 → P → (J → Option Ω) → Option Ω} {px py pt : Pos} {kt k2 : Nat} {pt2 : Pos} (i j : Nat) (hN : X.N.Nodup) (hc : X.calm = true) (ha : LA X env [a, b] (fun p : τ1 × τ2 × Unit => [.st none τ1 S1 p.1, .st none τ2 S2 p.2.1]) e' f)
    (hr : ∀ x y p, LB X SR envR kr bk ct (((e' p).set i (.st none τ1 S1 x)).set j (.st none τ2 S2 y)) rest envJ (fr x y p))
    (hi : X.N[i]? = some nm := by rfl) (hj : X.N[j]? = some nm2 := by rfl) (hij : i ≠ j := by decide) (hx : X.env.scope.names.lookup nm = some .local := by rfl) (hy : X.env.scope.names.lookup nm2 = some .local := by rfl)
    (hli : ∀ p, i < (e' p).length := by exact (fun _ => Nat.lt_of_sub_eq_succ rfl)) (hlj : ∀ p, j < (e' p).length := by exact (fun _ => Nat.lt_of_sub_eq_succ rfl))
    (hw : swappedStores [.Tuple [.Name nm px, .Name nm2 py] kt pt] (.Tuple [a, b] k2 pt2) X.env = pure (some [nm, nm2]) := by rfl)
    (hs : swapsWithSole [.Tuple [.Name nm px, .Name nm2 py] kt pt] (.Tuple [a, b] k2 pt2) pos.line X.env = pure false := by rfl) :
    LB X SR envR kr bk ct env (.Assign [.Tuple [.Name nm px, .Name nm2 py] kt pt] (.Tuple [a, b] k2 pt2) pos :: rest) envJ (fun kn => f fun r p => fr r.1 r.2.1 p kn) :=
  fun C F H σs es σ kn ω D hK hl h hk qn qb qc qr => tSs.of X (pss_cons (ps_par hc hN hi hj hij hx hy (paC X) hw hs) (pssC X)) (ha C F H σs es σ _ ω _ hK hl h hk fun r p vs F' H' hk' hv h' => by
    match vs, hv with
    | [v, u], _ =>
      refine ⟨v, u, rfl, ?_⟩
      have h2 := ER.asg (σs := some u :: σs) (es := .st none τ2 S2 r.2.1 :: es) (σ := σ) (env := e' p) h' (by simp [hl]) (hli p)
      have h3 := ER.asg (σs := σs) (es := es) (σ := σ.set i (some v)) h2 hl (by simpa using hlj p)
      exact hr r.1 r.2.1 p C F' H' σs es _ kn ω D hK hl h3 hk' qn qb qc qr)
/-- from a law's call to its def's promise -/
theorem law_sp {K : Fg} {H : Hp} {a : Addr} {ns : List Int} {m : List Int × Unit → Option Bool} {Q : VK} {E : XK} (hS : SqL K H a (ns.map V.int)) (hm : m (ns, ()) = some true) (q : ∀ H', Q (.bl true) H') :
    spP K (fun a : List Int × Unit => [.st none (List Int) scr a.1]) (it eB) m [.ref a] H Q E := by
  refine ⟨H, H, (ns, ()), true, hm, rfl, ⟨fun _ _ e => e, fun _ _ e => e, fun _ m => .inl m, fun _ m => m, rfl, fun _ => [], fun i s e => ?_, fun i hi a ha => (nomatch ha), fun i j _ _ a ha => (nomatch ha), fun i _ => List.nodup_nil⟩, fun F' H' v h => ?_⟩
  · match i, e with
    | 0, e =>
      cases e
      exact ⟨_, rfl, ⟨rfl, a, rfl, hS⟩, fun _ m => nomatch m⟩
    | i + 1, e => simp at e
  · have hv : v = .bl true := by
      obtain ⟨v', fp, e1, r⟩ := h.look (i := 0) rfl
      simp at e1; subst e1
      obtain ⟨_, r⟩ := r
      cases r; rfl
    rw [hv]; exact q H'
end
end Z

set_option Elab.async false
set_option linter.all false
set_option maxRecDepth 100000
namespace Z
open PySem PySem.Spec PyProof.Rows L2

/-! ### the mirrors in plain words -/
section
variable {α β S Ω : Type}
theorem ixN_nat {n i : Nat} (h : i < n) : ixN n (i : Int) = some i := by
  unfold ixN
  rw [if_pos (by omega), if_pos (by omega), Int.toNat_natCast]
theorem atI_nat {xs : List α} {i : Nat} (h : i < xs.length) : atI xs (i : Int) = some xs[i] := by
  unfold atI
  rw [ixN_nat h]
  exact List.getElem?_eq_getElem h
theorem atI_pos {xs : List α} {i : Int} (h0 : 0 ≤ i) (h1 : i < xs.length) : ∃ (k : Nat) (h : k < xs.length), i = k ∧ atI xs i = some xs[k] :=
  by
  obtain ⟨k, rfl⟩ := Int.eq_ofNat_of_zero_le h0
  exact ⟨k, by omega, rfl, atI_nat (by omega)⟩
theorem rangeL_nat (n : Nat) : rangeL 0 (n : Int) = (List.range n).map fun i : Nat => ((i : Nat) : Int) := by
  unfold rangeL
  simp
theorem mem_rangeL {n : Nat} {x : Int} : x ∈ rangeL 0 (n : Int) ↔ ∃ i : Nat, i < n ∧ x = i := by
  rw [rangeL_nat]
  simp only [List.mem_map, List.mem_range]
  exact ⟨fun ⟨i, h, e⟩ => ⟨i, h, e.symm⟩, fun ⟨i, h, e⟩ => ⟨i, h, e.symm⟩⟩
theorem rgOk_nat {n : Nat} (h : n < 2 ^ 62) : rgOk 0 (n : Int) = true := by
  unfold rgOk
  have h2 : (n : Int) < 2 ^ 62 := by exact_mod_cast h
  exact decide_eq_true ⟨by decide, by decide, by omega, h2⟩
theorem mulOk_l {i j : Int} (h0 : 0 ≤ i) (h : i < 2 ^ 64) : mulOk i j = true := decide_eq_true (.inl ⟨by omega, h⟩)
theorem mulOk_r {i j : Int} (h0 : 0 ≤ j) (h : j < 2 ^ 64) : mulOk i j = true := decide_eq_true (.inr ⟨by omega, h⟩)
theorem divOk_pos {j : Int} (h0 : 0 < j) (h : j < 1073741824) : divOk j = true := decide_eq_true ⟨by omega, by omega⟩
theorem modOk_pos {j : Int} (h0 : 0 < j) : modOk j = true := decide_eq_true (by omega)
theorem ck_wp {b : Bool} {k : Option Ω} {ω : Ω} (h : b = true) (hk : k = some ω) : ck b k = some ω := by rw [h]; exact hk
theorem bind_wp {o : Option α} {k : α → Option Ω} {ω : Ω} {a : α} (h : o = some a) (hk : k a = some ω) : o.bind k = some ω := by rw [h]; exact hk
/-- a for, by an invariant over the turns -/
theorem forO_wpN {ω : Ω} (Inv : Nat → S → Prop) {b : α → S → (S → Option Ω) → Option Ω} {k : S → Option Ω} : ∀ (xs : List α) (n : Nat) (s : S), Inv n s →
    (∀ i s x, xs[i]? = some x → Inv (n + i) s → ∀ kc : S → Option Ω, (∀ s', Inv (n + i + 1) s' → kc s' = some ω) → b x s kc = some ω) → (∀ s, Inv (n + xs.length) s → k s = some ω) → forO xs s b k = some ω
  | [], n, s, h0, _, he => he s h0
  | x :: xs, n, s, h0, hs, he => hs 0 s x rfl h0 _ fun s' h' => forO_wpN Inv xs (n + 1) s' h'
      (fun i s y e h kc hk => hs (i + 1) s y e (by rw [show n + (i + 1) = n + 1 + i by omega]; exact h) kc fun s' h' => hk s' (by rw [show n + 1 + i + 1 = n + (i + 1) + 1 by omega]; exact h'))
      fun s h => he s (by rw [show n + (x :: xs).length = n + 1 + xs.length by simp; omega]; exact h)
/-- .. by one that stays -/
theorem forO_wp {ω : Ω} (Inv : S → Prop) {b : α → S → (S → Option Ω) → Option Ω} {k : S → Option Ω} {xs : List α} {s : S} (h0 : Inv s)
    (hs : ∀ s x, x ∈ xs → Inv s → ∀ kc : S → Option Ω, (∀ s', Inv s' → kc s' = some ω) → b x s kc = some ω) (he : ∀ s, Inv s → k s = some ω) : forO xs s b k = some ω :=
  forO_wpN (fun _ => Inv) xs 0 s h0 (fun i s x e h kc hk => hs s x (List.mem_of_getElem? e) h kc hk) he
theorem forO_fold (g : S → α → S) {b : α → S → (S → Option Ω) → Option Ω} {k : S → Option Ω} : ∀ (xs : List α) (s : S), (∀ x ∈ xs, ∀ s kc, b x s kc = kc (g s x)) → forO xs s b k = k (xs.foldl g s)
  | [], s, _ => rfl
  | x :: xs, s, h => (h x (List.mem_cons_self ..) s _).trans (forO_fold g xs (g s x) fun y m => h y (List.mem_cons_of_mem _ m))
/-- two walks that go alike: both end with one answer, or both go on -/
theorem forO_two {Pr : Ω → Prop} {b1 b2 : α → Unit → (Unit → Option Ω) → Option Ω} : ∀ (xs : List α), (∀ x ∈ xs, (∃ r, Pr r ∧ ∀ k1 k2, b1 x () k1 = some r ∧ b2 x () k2 = some r) ∨ (∀ k1 k2, b1 x () k1 = k1 () ∧ b2 x () k2 = k2 ())) →
    (∃ r, Pr r ∧ ∀ k1 k2, forO xs () b1 k1 = some r ∧ forO xs () b2 k2 = some r) ∨ (∀ k1 k2, forO xs () b1 k1 = k1 () ∧ forO xs () b2 k2 = k2 ())
  | [], _ => .inr fun _ _ => ⟨rfl, rfl⟩
  | x :: xs, h => by
    rcases h x (List.mem_cons_self ..) with ⟨r, hr, h1⟩ | h1
    · exact .inl ⟨r, hr, fun k1 k2 => h1 _ _⟩
    · rcases forO_two xs (fun y m => h y (List.mem_cons_of_mem _ m)) with ⟨r, hr, h2⟩ | h2
      · exact .inl ⟨r, hr, fun k1 k2 => ⟨(h1 (fun _ => forO xs () b1 k1) (fun _ => forO xs () b2 k2)).1.trans (h2 k1 k2).1, (h1 (fun _ => forO xs () b1 k1) (fun _ => forO xs () b2 k2)).2.trans (h2 k1 k2).2⟩⟩
      · exact .inr fun k1 k2 => ⟨(h1 (fun _ => forO xs () b1 k1) (fun _ => forO xs () b2 k2)).1.trans (h2 k1 k2).1, (h1 (fun _ => forO xs () b1 k1) (fun _ => forO xs () b2 k2)).2.trans (h2 k1 k2).2⟩
/-- a walk that always goes on -/
theorem forO_skip {b : α → Unit → (Unit → Option Ω) → Option Ω} {k : Unit → Option Ω} : ∀ (xs : List α), (∀ x ∈ xs, ∀ kc, b x () kc = kc ()) → forO xs () b k = k ()
  | [], _ => rfl
  | x :: xs, h => (h x (List.mem_cons_self ..) _).trans (forO_skip xs fun y m => h y (List.mem_cons_of_mem _ m))
/-- a comprehension, by an invariant -/
theorem compO_wp {ω : Ω} (Inv : S → Prop) (Pe : β → Prop) {b : α → S → (Option β → S → Option Ω) → Option Ω} {k : List β → S → Option Ω} : ∀ (xs : List α) (s : S) (acc : List β), Inv s → (∀ y ∈ acc, Pe y) → acc.length + xs.length ≤ SZ →
    (∀ s x, x ∈ xs → Inv s → ∀ kc : Option β → S → Option Ω, (∀ y s', Pe y → Inv s' → kc (some y) s' = some ω) → b x s kc = some ω) → (∀ ys s, ys.length = acc.length + xs.length → (∀ y ∈ ys, Pe y) → Inv s → k ys s = some ω) → compO xs s b acc k = some ω
  | [], s, acc, h0, ha, _, _, he => he acc s rfl ha h0
  | x :: xs, s, acc, h0, ha, hl, hs, he => hs s x (List.mem_cons_self ..) h0 _ fun y s' hy h' => by
    have hl' : acc.length + 1 + xs.length ≤ SZ := by simpa [Nat.add_assoc, Nat.add_comm 1] using hl
    refine ck_wp (decide_eq_true (by omega)) (compO_wp Inv Pe xs s' (acc ++ [y]) h' (fun z m => ?_) (by simpa using hl') (fun s z m => hs s z (List.mem_cons_of_mem _ m)) fun ys s e => he ys s (by simp at e ⊢; omega))
    rcases List.mem_append.1 m with m | m
    · exact ha z m
    · simp at m; subst m; exact hy
/-- .. that maps -/
theorem compO_map (g : α → β) {b : α → S → (Option β → S → Option Ω) → Option Ω} {k : List β → S → Option Ω} (s : S) : ∀ (xs : List α) (acc : List β), acc.length + xs.length ≤ SZ → (∀ x ∈ xs, ∀ kc, b x s kc = kc (some (g x)) s) → compO xs s b acc k = k (acc ++ xs.map g) s
  | [], acc, _, _ => by simp [compO]
  | x :: xs, acc, hl, h => by
    have hl' : acc.length + 1 + xs.length ≤ SZ := by simpa [Nat.add_assoc, Nat.add_comm 1] using hl
    refine (h x (List.mem_cons_self ..) _).trans ?_
    show ck _ _ = _
    rw [decide_eq_true (show acc.length < SZ by omega), ck_true, compO_map g s xs (acc ++ [g x]) (by simpa using hl') fun y m => h y (List.mem_cons_of_mem _ m)]
    simp
/-- .. that sifts and maps -/
theorem compO_filterMap (g : α → Option β) {b : α → S → (Option β → S → Option Ω) → Option Ω} {k : List β → S → Option Ω} (s : S) : ∀ (xs : List α) (acc : List β), acc.length + xs.length ≤ SZ → (∀ x ∈ xs, ∀ kc, b x s kc = kc (g x) s) → compO xs s b acc k = k (acc ++ xs.filterMap g) s
  | [], acc, _, _ => by simp [compO]
  | x :: xs, acc, hl, h => by
    have hl' : acc.length + 1 + xs.length ≤ SZ := by simpa [Nat.add_assoc, Nat.add_comm 1] using hl
    refine (h x (List.mem_cons_self ..) _).trans ?_
    cases e : g x with
    | some y =>
      show ck _ _ = _
      rw [decide_eq_true (show acc.length < SZ by omega), ck_true, compO_filterMap g s xs (acc ++ [y]) (by simpa using hl') fun y m => h y (List.mem_cons_of_mem _ m)]
      simp [e]
    | none =>
      show compO xs s b acc k = _
      rw [compO_filterMap g s xs acc (by omega) fun y m => h y (List.mem_cons_of_mem _ m)]
      simp [e]
end
/-! ### the drawing of the laws -/
def takeM (t0 : TSt) (a_most : Int) : Option (Int × TSt) :=
  ck (modOk (List.length t0.2 : Int)) (let v_at : Int := (Int.fmod t0.1 (List.length t0.2 : Int))
  (atI t0.2 v_at).bind fun y =>
  let v_cell : Int := y
  if (decide ((1000000000000000000 : Int) ≤ v_cell)) = true then (
    ck (divOk a_most) ((ixN (List.length t0.2) v_at).bind fun n =>
    let z : (List Int) := List.set t0.2 n (Int.fdiv v_cell a_most)
    ck (modOk a_most) (some ((Int.fmod v_cell a_most), (t0.1, z)))))
  else (
    let v_n : Int := (t0.1 + (1 : Int))
    ck (mulOk v_cell (48271 : Int)) (ck (mulOk v_n (69621 : Int)) (ck (modOk (2147483647 : Int)) (let v_mixed : Int := (Int.fmod ((v_cell * (48271 : Int)) + (v_n * (69621 : Int))) (2147483647 : Int))
    ck (mulOk v_mixed (16807 : Int)) (ck (mulOk v_n (7919 : Int)) (ck (modOk (1000000007 : Int)) (let v_mixed2 : Int := (Int.fmod ((v_mixed * (16807 : Int)) + (v_n * (7919 : Int))) (1000000007 : Int))
    ck (divOk (7 : Int)) (ck (modOk a_most) (some ((Int.fmod (Int.fdiv v_mixed2 (7 : Int)) a_most), (v_n, t0.2))))))))))))
theorem take_ok {t : TSt} {m : Int} (ht : t.2 ≠ []) (h0 : 0 < m) (h1 : m < 1073741824) : ∃ v t', takeM t m = some (v, t') ∧ 0 ≤ v ∧ v < m ∧ t'.2 ≠ [] := by
  have hl : 0 < t.2.length := List.length_pos_iff.2 ht
  have hl' : (0 : Int) < (t.2.length : Int) := by omega
  have a0 := Int.fmod_nonneg_of_pos t.1 hl'
  have a1 := Int.fmod_lt_of_pos t.1 hl'
  obtain ⟨k, hk, e, ea⟩ := atI_pos (xs := t.2) a0 a1
  unfold takeM
  rw [modOk_pos hl', ck_true]
  show ∃ v t', (atI t.2 (Int.fmod t.1 t.2.length)).bind _ = _ ∧ _
  rw [ea]
  show ∃ v t', (if (decide ((1000000000000000000 : Int) ≤ t.2[k])) = true then _ else _) = _ ∧ _
  by_cases c : (1000000000000000000 : Int) ≤ t.2[k]
  · rw [if_pos (decide_eq_true c), divOk_pos h0 h1, ck_true, e, ixN_nat hk]
    show ∃ v t', ck (modOk m) _ = _ ∧ _
    rw [modOk_pos h0, ck_true]
    refine ⟨_, _, rfl, Int.fmod_nonneg_of_pos _ h0, Int.fmod_lt_of_pos _ h0, fun z => ?_⟩
    exact ht (by simpa using z)
  · rw [if_neg (by simpa using c)]
    show ∃ v t', ck (mulOk _ 48271) (ck (mulOk _ 69621) (ck (modOk 2147483647) (ck (mulOk _ 16807) (ck (mulOk _ 7919) (ck (modOk 1000000007) (ck (divOk 7) (ck (modOk m) (some _)))))))) = _ ∧ _
    rw [mulOk_r (by decide) (by decide), mulOk_r (by decide) (by decide), mulOk_r (by decide) (by decide), mulOk_r (by decide) (by decide), modOk_pos (by decide), modOk_pos (by decide), divOk_pos (by decide) (by decide), modOk_pos h0]
    simp only [ck_true]
    exact ⟨_, _, rfl, Int.fmod_nonneg_of_pos _ h0, Int.fmod_lt_of_pos _ h0, ht⟩
theorem take_wp {Ω : Type} {t : TSt} {m : Int} {k : Int × TSt → Option Ω} {ω : Ω} (ht : t.2 ≠ []) (h0 : 0 < m) (h1 : m < 1073741824) (hk : ∀ v t', 0 ≤ v → v < m → t'.2 ≠ [] → k (v, t') = some ω) : (takeM t m).bind k = some ω := by
  obtain ⟨v, t', e, a, b, c⟩ := take_ok ht h0 h1
  exact bind_wp e (hk v t' a b c)
def stateM (a_script : List Int) : Option TSt :=
  compO (cutL a_script none (some (63 : Int))) () (fun x (t : Unit) kc => (
    kc (some (if x < 0 then -x else x)) ())) [] fun (ys : List Int) (t : Unit) => (
    let v_cells : (List Int) := ys
    let k := fun j : (List Int) => (
      some ((0 : Int), j))
    if (decide ((List.length v_cells : Int) = (0 : Int))) = true then (
      let v_cells2 : (List Int) := [(0 : Int)]
      k v_cells2)
    else (
      k v_cells))
theorem cutL_len {α : Type} (xs : List α) (a b : Option Int) : (cutL xs a b).length ≤ xs.length := by
  unfold cutL
  simp; omega
theorem state_ok {ns : List Int} (h : ns.length ≤ 63) : ∃ t, stateM ns = some t ∧ t.2 ≠ [] := by
  unfold stateM
  rw [compO_map (fun x : Int => if x < 0 then -x else x) () _ [] (by have := cutL_len ns none (some 63); show _ ≤ 16777216; simp; omega) (fun _ _ _ => rfl)]
  show ∃ t, (if decide _ = true then _ else _) = some t ∧ _
  split
  · exact ⟨_, rfl, by simp⟩
  · rename_i c
    exact ⟨_, rfl, fun z => c (decide_eq_true (by rw [show List.length _ = 0 from congrArg List.length z]; rfl))⟩
end Z

set_option Elab.async false
set_option linter.all false
set_option maxRecDepth 100000
namespace Z
open PySem PySem.Spec PyProof.Rows L2

/-! ### a list with parts of their own kinds, that is changed part by part -/
def lsR {τ : Type} (E : Enc τ) : Stor τ where
  rel := fun K F H fp v t => ∃ p vs ds, v = .ref p ∧ H p = some (.lst vs) ∧ E.enc t = .tuple ds ∧ RepAll K F vs ds ∧ fp = [p]
  monoF := fun s h => by
    obtain ⟨p, vs, ds, rfl, hp, e, r, rfl⟩ := h
    exact ⟨p, vs, ds, rfl, hp, e, r.mono s, rfl⟩
  frame := fun f h => by
    obtain ⟨p, vs, ds, rfl, hp, e, r, rfl⟩ := h
    exact ⟨p, vs, ds, rfl, by rw [f p List.mem_cons_self]; exact hp, e, r, rfl⟩
/-- another value at the n-th part -/
structure PartS (E : Enc τ) (n : Int) (E1 : Enc α) (u : τ → α → τ) : Prop where
  is : ∀ x y, ∃ ds j, E.enc x = .tuple ds ∧ ixN ds.length n = some j ∧ E.enc (u x y) = .tuple (ds.set j (E1.enc y))
theorem parts2_0 {A : Enc α} {B : Enc β} : PartS (eT2 A B) 0 A (fun x y => (y, x.2)) := ⟨fun _ _ => ⟨_, _, rfl, rfl, rfl⟩⟩
theorem parts2_1 {A : Enc α} {B : Enc β} : PartS (eT2 A B) 1 B (fun x y => (x.1, y)) := ⟨fun _ _ => ⟨_, _, rfl, rfl, rfl⟩⟩
theorem parts3_0 {γ : Type} {A : Enc α} {B : Enc β} {D : Enc γ} : PartS (eT3 A B D) 0 A (fun x y => (y, x.2)) := ⟨fun _ _ => ⟨_, _, rfl, rfl, rfl⟩⟩
theorem parts3_1 {γ : Type} {A : Enc α} {B : Enc β} {D : Enc γ} : PartS (eT3 A B D) 1 B (fun x y => (x.1, y, x.2.2)) := ⟨fun _ _ => ⟨_, _, rfl, rfl, rfl⟩⟩
theorem parts3_2 {γ : Type} {A : Enc α} {B : Enc β} {D : Enc γ} : PartS (eT3 A B D) 2 D (fun x y => (x.1, x.2.1, y)) := ⟨fun _ _ => ⟨_, _, rfl, rfl, rfl⟩⟩
theorem parts4_0 {γ δ : Type} {A : Enc α} {B : Enc β} {D : Enc γ} {D' : Enc δ} : PartS (eT4 A B D D') 0 A (fun x y => (y, x.2)) := ⟨fun _ _ => ⟨_, _, rfl, rfl, rfl⟩⟩
theorem parts4_1 {γ δ : Type} {A : Enc α} {B : Enc β} {D : Enc γ} {D' : Enc δ} : PartS (eT4 A B D D') 1 B (fun x y => (x.1, y, x.2.2)) := ⟨fun _ _ => ⟨_, _, rfl, rfl, rfl⟩⟩
theorem parts4_2 {γ δ : Type} {A : Enc α} {B : Enc β} {D : Enc γ} {D' : Enc δ} : PartS (eT4 A B D D') 2 D (fun x y => (x.1, x.2.1, y, x.2.2.2)) := ⟨fun _ _ => ⟨_, _, rfl, rfl, rfl⟩⟩
theorem parts4_3 {γ δ : Type} {A : Enc α} {B : Enc β} {D : Enc γ} {D' : Enc δ} : PartS (eT4 A B D D') 3 D' (fun x y => (x.1, x.2.1, x.2.2.1, y)) := ⟨fun _ _ => ⟨_, _, rfl, rfl, rfl⟩⟩
section
variable {X : Cx} {R I Ω : Type} {SR : Stor R} {envR : I → Env} {kr : R → I → Option Ω} {bk ct : Lp Ω} {env : Env} {nm : Str} {pos : Pos} {a b e : Expr} {xs : List Expr} {rest : List Stmt} {P A : Type} {J : Type} {envJ : J → Env} {e' : P → Env} {τ α : Type} {E : Enc τ} {E1 : Enc α}
/-- [a, 0, ..] -/
theorem lx_row {sl : A → Env} {fs : (A → P → Option Ω) → Option Ω} (h : LA X env xs sl e' fs) (E : Enc τ) (g : A → τ) (ds : A → List PyData) (hd : ∀ a, ShL (sl a) (ds a)) (he : ∀ a, E.enc (g a) = .tuple (ds a)) (hz : xs.length ≤ 1000 := by decide) (hz2 : ∀ a, (sl a).length = xs.length := by intro _; rfl) :
    LX X env (.List xs pos) (lsR E) e' (fun k => fs fun a p => k (g a) p) :=
  fun C F H σs es σ k ω Q hK hl hr hk q => tE.of X (pe_lst (paC X)) (h C F H σs es σ _ ω _ hK hl hr hk fun a p vs F' H' hk' hlv h' => by
    refine ⟨?_, fun t nt => ?_⟩
    · have := hz2 a; simp at hlv; exact Nat.le_of_lt (small1000 (by omega))
    · have r := (hd a).rep hlv h'
      exact q (g a) p (.ref t) F' _ hk' ((h'.popN hlv).newOw nt ⟨t, vs, ds a, rfl, upd_same, he a, r, rfl⟩))
/-- row[n] -/
theorem lx_rowAt {w : Option V} {t : τ} {n : Int} {g : τ → α} {p1 cp sp : Pos} {k : Nat} (i : Nat) (hp : Part E n E1 g) (he : env[i]? = some (.st w τ (lsR E) t)) (hi : X.N[i]? = some nm := by rfl) (hv_nm : Vis X.env.scope nm := by first | exact Or.inl rfl | exact Or.inr (Or.inl rfl) | exact Or.inr (Or.inr rfl)) (hd : (nm == ("__debug__" : Str)) = false := by decide) (hcd : (nm == ("__classdict__" : Str)) = false := by decide) :
    LX X env (.Subscript (.Name nm p1) (.Constant (.int n) k cp) sp) (it E1) (fun _ : Unit => env) (fun (k : α → Unit → Option Ω) => k (g t) ()) :=
  fun C F H σs es σ k ω Q hK hl h hk q => tE.of X (pe_ix ix_list (pe_var hi hv_nm hd hcd) pe_int fun _ _ => rfl) (by
    obtain ⟨v, fp, e1, p, vs, ds, rfl, h1, h2, h3, _⟩ := h.lookF hl he
    obtain ⟨ds', q1, q2⟩ := hp.is t
    rw [h2] at q1
    cases q1
    obtain ⟨u, hu, ru⟩ := h3.atD q2
    exact ⟨_, e1, p, vs, n, u, rfl, rfl, SqL.of h1, hu, q (g t) () u F H hk (h.pushSh ru)⟩)
/-- row[n] = e -/
theorem lb_setrow {f : (α → P → Option Ω) → Option Ω} {fr : α → P → (J → Option Ω) → Option Ω} {w : Option V} {t : P → τ} {n : Int} {u : τ → α → τ} {p1 cp sp : Pos} {k : Nat} (i : Nat) (hp : PartS E n E1 u) (he : LX X env e (it E1) e' f) (h1 : ∀ p, (e' p)[i]? = some (.st w τ (lsR E) (t p)))
    (hr : ∀ y p, LB X SR envR kr bk ct ((e' p).set i (.st w τ (lsR E) (u (t p) y))) rest envJ (fr y p)) (hi : X.N[i]? = some nm := by rfl) (hv_nm : Vis X.env.scope nm := by first | exact Or.inl rfl | exact Or.inr (Or.inl rfl) | exact Or.inr (Or.inr rfl)) (hd : (nm == ("__debug__" : Str)) = false := by decide) (hcd : (nm == ("__classdict__" : Str)) = false := by decide)
    (ha : ∀ v, assign (.Subscript (.Name nm p1) (.Constant (.int n) k cp) sp) X.env v = (do
      let ov ← holding [v] (eval (.Name nm p1) X.env)
      let iv ← holding [v, ov] (eval (.Constant (.int n) k cp) X.env)
      standAt sp
      holding [v, ov, iv] (setItem ov iv v)
      release [v, ov, iv] []) := by intro _; rfl)
    (hs : swapsWithSole [.Subscript (.Name nm p1) (.Constant (.int n) k cp) sp] e pos.line X.env = pure false := by rfl) (hw : swappedStores [.Subscript (.Name nm p1) (.Constant (.int n) k cp) sp] e X.env = pure none := by rfl) (ha1 : (assignEach [.Subscript (.Name nm p1) (.Constant (.int n) k cp) sp] X.env).map (·.2) = [assign (.Subscript (.Name nm p1) (.Constant (.int n) k cp) sp) X.env] := by rfl) :
    LB X SR envR kr bk ct env (.Assign [.Subscript (.Name nm p1) (.Constant (.int n) k cp) sp] e pos :: rest) envJ (fun kn => f fun y p => fr y p kn) :=
  fun C F H σs es σ kn ω D hK hl h hk qn qb qc qr => tSs.of X (pss_cons (ps_asg (peC X) (pg_sub (pe_var hi hv_nm hd hcd) pe_int set_list ha) hs hw ha1) (pssC X)) (he C F H σs es σ _ ω _ hK hl h hk fun y p v F' H' hk' h' => by
    have hvy : Rep C.K F' v (E1.enc y) := by
      obtain ⟨v', fp, e1, r⟩ := h'.look (i := 0) rfl
      simp at e1; subst e1
      exact r.2
    obtain ⟨l, fp, e1, r1, nd, ow, fin⟩ := (ER.pop h').mut (i := es.length + i) (by rw [at_app _ rfl]; exact h1 p)
    rw [at_app _ hl] at e1
    obtain ⟨p0, vs, ds, rfl, h2, h3, h4, rfl⟩ := r1
    obtain ⟨ds', j, q1, q2, q3⟩ := hp.is (t p) y
    rw [h3] at q1
    cases q1
    have hj : ixN vs.length n = some j := by rw [h4.length]; exact q2
    refine ⟨_, e1, p0, vs, n, j, rfl, rfl, h2, hj, ?_⟩
    have fin' := fin τ (lsR E) (u (t p) y) (upd H' p0 (.lst (vs.set j v))) [p0] (fun a na _ => upd_ne fun z => na (by rw [z]; simp)) (fun a m => ?_) ⟨p0, _, _, rfl, upd_same, q3, h4.set hvy, rfl⟩ (by simp) (fun a m => ?_)
    · rw [List.set_append_right _ _ (Nat.le_add_right _ _), Nat.add_sub_cancel_left] at fin'
      exact hr y p C F' _ σs es σ kn ω D hK hl fin' hk' qn qb qc qr
    · by_cases z : a = p0
      · subst z; rw [upd_same]; exact fun z => by cases z
      · rw [upd_ne z]; exact m
    · simp at m; subst m
      exact ⟨by rw [upd_same]; exact (fun z => by cases z), .inl (by simp)⟩)
variable {np tp : Pos} {f : (τ → P → Option Ω) → Option Ω}
theorem sqT_ty {K : Fg} {H : Hp} {p : Addr} {vs : List V} (h : SqT K H p vs) : TyX K H (.ref p) (.type "tuple") := by
  rcases h with (h | ⟨o, h⟩) | ⟨o, its, n, h1, h2, _⟩
  · exact .base (.tup h)
  · exact .fTuple h
  · exact .kTuple h1 h2
/-- isinstance(a, tuple) of a tuple -/
theorem lx_isT (hE : ∀ x, ∃ ds, E.enc x = .tuple ds) (hm1 : X.mg "isinstance" = none) (hm2 : X.mg "tuple" = none) (ha : LX X env a (it E) e' f) (hg1 : Gl X "isinstance" := by rfl) (hg2 : Gl X "tuple" := by rfl)
    (hs : starEach [a, .Name "tuple" tp] X.env = (false, eval a X.env) :: starEach [.Name "tuple" tp] X.env := by rfl) (hs2 : starEach [.Name "tuple" tp] X.env = (false, eval (.Name "tuple" tp) X.env) :: starEach [] X.env := by rfl) (hpl : (backTo pos (starEach [.Name "tuple" tp] X.env)).any (·.1) = false := by rfl) :
    LX X env (.Call (.Name "isinstance" np) [a, .Name "tuple" tp] [] pos) (it eB) e' (fun k => f fun _ p => k true p) :=
  fun C F H σs es σ k ω Q hK hl h hk q => tE.of X (pe_callB call_isi hg1 hm1 (by rfl) (pa_cons (peC X) (pa_cons (pe_bltn (v := .ty "tuple") (u := .type "tuple") hg2 hm2 (by rfl) rfl) pa_nil hs2) hs) (by decide) (by decide) hs hpl) (ha C F H σs es σ _ ω _ hK hl h hk fun x p v F' H' hk' h' => by
    obtain ⟨v', fp, e1, _, r⟩ := h'.look (i := 0) rfl
    simp at e1; subst e1
    obtain ⟨ds, e⟩ := hE x
    rw [e] at r
    obtain ⟨t, vs, rfl, h1, h2⟩ := r.tup_inv
    exact ⟨_, _, _, _, true, rfl, .ty "tuple", sqT_ty (by rw [← hK]; exact same_sqT h'.sF h1), by unfold PySem.W.kitOne; rw [if_pos (by decide)], q true p (.bl true) F' H' hk' (h'.pop.pushSh (.bl true))⟩)
/-- len of a tuple of parts -/
theorem lx_lenT {n : Nat} (hE : ∀ x, ∃ ds, E.enc x = .tuple ds ∧ ds.length = n) (hm : X.mg "len" = none) (ha : LX X env a (it E) e' f) (hg : Gl X "len" := by rfl) (he : starEach (a :: []) X.env = (false, eval a X.env) :: starEach [] X.env := by rfl) (hpl : (backTo pos (starEach [] X.env)).any (·.1) = false := by rfl) :
    LX X env (.Call (.Name "len" np) [a] [] pos) (it eI) e' (fun k => f fun _ p => k (n : Int) p) :=
  lx_b1t (G := fun _ => True) (E := eI) (g := fun _ : τ => (n : Int)) call_len_seq hm PySem.boot_len (lo_of ha) (fun _ => trivial) (fun K F H fp v x Q hK s r q => by
    obtain ⟨_, r⟩ := r
    obtain ⟨ds, e, hn⟩ := hE x
    rw [e] at r
    obtain ⟨t, vs, rfl, h1, h2⟩ := r.tup_inv
    have := h2.length
    exact ⟨t, vs, rfl, .inr (by rw [← hK]; exact same_sqT s h1), by rw [this, hn]; exact q _ (.int _)⟩) hg (by decide) (by decide) he hpl
end
end Z

set_option Elab.async false
set_option linter.all false
set_option maxRecDepth 100000
namespace Z
open PySem PySem.Spec PyProof.Rows L2

/-! ### pairs in their order; ranges; walks that gather -/
abbrev lpp : Int × Int → Int × Int → Bool := lt2 ltI ltI
theorem lpp_iff {x y : Int × Int} : lpp x y = true ↔ (x.1 < y.1 ∨ (x.1 = y.1 ∧ x.2 < y.2)) := by
  unfold lpp lt2 ltI
  by_cases c : x.1 = y.1
  · rw [if_pos c, decide_eq_true_eq]; omega
  · rw [if_neg c, decide_eq_true_eq]; omega
theorem lpp_no {x y : Int × Int} : lpp x y = false ↔ ¬(x.1 < y.1 ∨ (x.1 = y.1 ∧ x.2 < y.2)) := by rw [← lpp_iff]; simp
theorem minB_pp {l : List (Int × Int)} {m : Int × Int} (hm : m ∈ l) (h : ∀ y ∈ l, lpp y m = false) : minB lpp l = some m := by
  have key : ∀ (l : List (Int × Int)) (a : Int × Int), (l.foldl (fun a y => if lpp y a = true then y else a) a ∈ a :: l) ∧ ∀ y ∈ a :: l, lpp y (l.foldl (fun a y => if lpp y a = true then y else a) a) = false := by
    intro l
    induction l with
    | nil => intro a; refine ⟨by simp, fun y m => ?_⟩; simp at m; subst m; rw [List.foldl_nil, lpp_no]; omega
    | cons b l ih =>
      intro a
      rw [List.foldl_cons]
      by_cases c : lpp b a = true
      · rw [if_pos c]
        obtain ⟨i1, i2⟩ := ih b
        refine ⟨by rcases List.mem_cons.1 i1 with h | h <;> simp [h], fun y m => ?_⟩
        rcases List.mem_cons.1 m with rfl | m
        · have i3 := i2 b (by simp)
          rw [lpp_no] at i3 ⊢
          rw [lpp_iff] at c
          omega
        · exact i2 y m
      · rw [if_neg c]
        obtain ⟨i1, i2⟩ := ih a
        refine ⟨by rcases List.mem_cons.1 i1 with h | h <;> simp [h], fun y m => ?_⟩
        rcases List.mem_cons.1 m with rfl | m
        · exact i2 _ (by simp)
        · rcases List.mem_cons.1 m with rfl | m
          · have i3 := i2 a (by simp)
            have c' : lpp y a = false := by simpa using c
            rw [lpp_no] at i3 c' ⊢
            omega
          · exact i2 y (by simp [m])
  cases l with
  | nil => cases hm
  | cons a l =>
    obtain ⟨i1, i2⟩ := key l a
    show some _ = some m
    have h1 := h _ i1
    have h2 := i2 m hm
    rw [lpp_no] at h1 h2
    exact congrArg some (Prod.ext (by omega) (by omega))
theorem mem_range2 {lo hi x : Int} : x ∈ rangeL lo hi ↔ lo ≤ x ∧ x < hi := by
  unfold rangeL
  simp only [List.mem_map, List.mem_range]
  exact ⟨fun ⟨i, h, e⟩ => by omega, fun h => ⟨(x - lo).toNat, by omega, by omega⟩⟩
theorem rangeL_len {lo hi : Int} : (rangeL lo hi).length = (hi - lo).toNat := by simp [rangeL]
theorem rangeL_cons {lo hi : Int} (h : lo < hi) : ∃ r, rangeL lo hi = lo :: r := by
  unfold rangeL
  obtain ⟨n, hn⟩ : ∃ n, (hi - lo).toNat = n + 1 := ⟨(hi - lo).toNat - 1, by omega⟩
  rw [hn, List.range_succ_eq_map, List.map_cons]
  exact ⟨_, by simp; rfl⟩
theorem rangeL_snoc {lo hi : Int} (h : lo < hi) : ∃ r, rangeL lo hi = r ++ [hi - 1] := by
  unfold rangeL
  obtain ⟨n, hn⟩ : ∃ n, (hi - lo).toNat = n + 1 := ⟨(hi - lo).toNat - 1, by omega⟩
  rw [hn, List.range_succ, List.map_append]
  refine ⟨_, congrArg _ ?_⟩
  simp; omega
theorem rgOk_small {lo hi : Int} (h1 : -1000000 ≤ lo) (h2 : lo ≤ 1000000) (h3 : -1000000 ≤ hi) (h4 : hi ≤ 1000000) : rgOk lo hi = true := decide_eq_true ⟨by omega, by omega, by omega, by omega⟩
theorem atI_last {α : Type} {l : List α} {a : α} : atI (l ++ [a]) (-(1 : Int)) = some a := by
  unfold atI ixN
  rw [if_neg (by decide), if_pos (by simp; omega)]
  show (l ++ [a])[_]? = _
  have : (-(1 : Int) + ((l ++ [a]).length : Int)).toNat = l.length := by simp; omega
  rw [this]; simp
theorem forO_cat {α β Ω : Type} (f : α → List β) (m N : Nat) {b : α → List β → (List β → Option Ω) → Option Ω} {k : List β → Option Ω} : ∀ (xs : List α) (s : List β), s.length + xs.length * m ≤ N →
    (∀ x ∈ xs, (f x).length ≤ m ∧ ∀ s kc, s.length + m ≤ N → b x s kc = kc (s ++ f x)) → forO xs s b k = k (s ++ xs.flatMap f)
  | [], s, _, _ => by simp [forO]
  | x :: xs, s, hl, h => by
    obtain ⟨h1, h2⟩ := h x (List.mem_cons_self ..)
    rw [List.length_cons, Nat.add_mul, Nat.one_mul] at hl
    refine (h2 s _ (by omega)).trans ?_
    rw [forO_cat f m N xs (s ++ f x) (by rw [List.length_append]; omega) fun y k => h y (List.mem_cons_of_mem _ k), List.flatMap_cons, List.append_assoc]
/-- the cells of a rectangle, column by column -/
def grid (x0 x1 y0 y1 : Int) : List (Int × Int) := (rangeL x0 x1).flatMap fun c => (rangeL y0 y1).map fun r => (c, r)
theorem grid_first {x0 x1 y0 y1 : Int} (hx : x0 < x1) (hy : y0 < y1) : atI (grid x0 x1 y0 y1) 0 = some (x0, y0) := by
  obtain ⟨r, e⟩ := rangeL_cons hx
  obtain ⟨q, e2⟩ := rangeL_cons hy
  unfold grid
  rw [e, e2]
  simp only [List.flatMap_cons, List.map_cons, List.cons_append]
  exact Z.atI_nat (xs := (x0, y0) :: _) (i := 0) (by simp)
theorem grid_last {x0 x1 y0 y1 : Int} (hx : x0 < x1) (hy : y0 < y1) : atI (grid x0 x1 y0 y1) (-(1 : Int)) = some (x1 - 1, y1 - 1) := by
  obtain ⟨r, e⟩ := rangeL_snoc hx
  obtain ⟨q, e2⟩ := rangeL_snoc hy
  unfold grid
  rw [e, e2]
  simp only [List.flatMap_append, List.map_append, List.flatMap_cons, List.flatMap_nil, List.map_cons, List.map_nil, List.append_nil, ← List.append_assoc]
  exact atI_last
end Z

set_option Elab.async false
set_option linter.all false
set_option maxRecDepth 100000
namespace Z
open PySem PySem.Spec PyProof.Rows L2

/-! ### a def that is called where no repr is under way -/
/-- the promise of a def, where no repr is under way -/
structure FnG (P : Program) (w : World) (K : Fg) (mg : Str → Option Value) (base : Heap) (k : Nat) (f : Addr) (fd : FuncData) (ps : List Str) (sp : Sp) : Prop where
  go : ∀ (A : Around) (ou : List PySem.Env) (s : Shared) (H : Hp) (ar : Args) (us : List Value) (vs : List V) (Q : VK) (E : XK), A.guards = some [] → Room k A → Env0 P w K mg base A ou s H → BindsTo s fd ar (ps.zip us) → Vals vs us → sp vs H Q E → codeAny (model P w) A (.call (.ref f) ar) (CR CX0 ou P w H s Q E) s
section
variable {P : Program} {w : World} {K : Fg} {mg : Str → Option Value} {base : Heap}
theorem FnG.weak {k : Nat} {f : Addr} {fd : FuncData} {ps : List Str} {sp sp' : Sp} (G : FnG P w K mg base k f fd ps sp) (h : ∀ vs H Q E, sp' vs H Q E → sp vs H Q E) : FnG P w K mg base k f fd ps sp' :=
  ⟨fun A ou s H ar us vs Q E g hr e hb hv hs => G.go A ou s H ar us vs Q E g hr e hb hv (h _ _ _ _ hs)⟩
theorem fnG0 {x qual : Str} {st : Stmt} {f : Addr} {fd : FuncData} {N ps : List Str} {k : Nat} {sp : Sp} (F : Fun K x qual st f fd) (S : FnScope N ps (defScope st)) (len : ∀ vs H Q E, sp vs H Q E → vs.length = ps.length)
    (hb : ∀ (cdv : Value) (A : Around) (ou : List PySem.Env) (s : Shared) (H : Hp) (vs : List V) (Q : VK) (E : XK), A.guards = some [] → Room k (A.deeper (envOfC qual (defScope st) s.heap.objs.size f cdv)) → sp vs H Q E →
      ∃ t, PSs (cxOf CX0 P w K mg base N qual (defScope st) f cdv A ou s H E).nox (defBody st) t ∧ t { nx := fun _ H' => Q .non H', rt := Q } (L2.start N vs) H) : FnG P w K mg base (k + 1) f fd ps sp := by
  obtain ⟨oc, od, kV, doc, pm, an, cdv, ct, osl, rfl, lk, hcd⟩ := F.ex
  constructor
  intro A ou s H ar us vs Q E hg hr e0 hbd hv hsp
  have hKs : K.In s.heap := e0.mod.kin.keeps fun b o e => (e0.bs b o e).1
  have hnl : s.heap.NoLimit := e0.mod.nolimit.keeps fun b o e => (e0.bs b o e).1
  have kinds : ∀ y ∈ ps.zip us, (defScope st).names.lookup y.1 = some .local ∨ ((defScope st).names.lookup y.1 = some .cell ∧ ((cellsFrom (s.heap.objs.size + 1) (defScope st).names []).lookup y.1).isSome = true) := by
    rintro ⟨nme, va⟩ hy
    cases S.par nme (List.of_mem_zip hy).1 with
    | inl z => exact Or.inl z
    | inr z => exact Or.inr ⟨z, PySem.W.cellsFrom_some _ _ _ (Or.inl z)⟩
  refine codeAny_call_function hr.depth (hKs _ _ lk) rfl S.co S.gen rfl (PySem.W.codeRec_of hKs hcd) (hbd _ _ _ _ ?go)
  refine wpAny_newFunctionEnv_cells S.kind kinds fun en1 hen s1 x1 => ?_
  subst hen
  refine ⟨hnl.keeps x1.toInCall.keep, codeAny_func ?_⟩
  obtain ⟨t, ht, hq⟩ := hb cdv A ou s H vs Q E hg (hr.deeper _) hsp
  have inv : Inv (cxOf CX0 P w K mg base N qual (defScope st) f cdv A ou s H E) [] (L2.start N vs) H s1 := inv_start S hr.hd e0 (len _ _ _ _ hsp) hv x1
  have ht2 := ht.nox
  refine wpAny_mono (ht2.run [] s1 (L2.start N vs) H _ inv hq) (fun fl s2 hs2 => ?_) fun e s2 hs2 => hs2
  cases fl with
  | ret u =>
    obtain ⟨v, σ2, H2, J, rv, q⟩ := hs2
    exact ⟨v, H2, J.os, J.bare, J.base, J.hok, rv, q⟩
  | next =>
    obtain ⟨σ2, H2, J, q⟩ := hs2
    exact ⟨V.non, H2, J.os, J.bare, J.base, J.hok, rfl, q⟩
  | brk => exact False.elim hs2.choose_spec.choose_spec.2
  | cont => exact False.elim hs2.choose_spec.choose_spec.2
/-- .. by its body's derivation -/
theorem fnPG {x qual : Str} {st : Stmt} {f : Addr} {fd : FuncData} {N ps : List Str} {k : Nat} {A R : Type} {sl : A → Env} {SR : Stor R} {m : A → Option R} (F : Fun K x qual st f fd) (S : FnScope N ps (defScope st)) (n : Nat) (hn : N.length - ps.length = n) (hl : ∀ a, (sl a).length = ps.length)
    (hb : ∀ (cdv : Value) (A' : Around) (ou : List PySem.Env) (s : Shared) (H : Hp) (E : XK), (A'.deeper (envOfC qual (defScope st) s.heap.objs.size f cdv)).guards = some [] → Room k (A'.deeper (envOfC qual (defScope st) s.heap.objs.size f cdv)) → ∀ a : A,
      LB (cxOf CX0 P w K mg base N qual (defScope st) f cdv A' ou s H E).nox SR (fun _ : Unit => List.replicate (ps.length + n) .un) (fun (r : R) (_ : Unit) => some r) (noLp R) (noLp R) (sl a ++ List.replicate n .un) (defBody st) (fun z : Empty => z.elim) (fun _ => m a)) :
    FnG P w K mg base (k + 1) f fd ps (spP K sl SR m) := by
  have hlen : ∀ vs H Q E, spP K sl SR m vs H Q E → vs.length = ps.length := fun vs H Q E h => by
    obtain ⟨B, F0, a, r, _, h2, _⟩ := h
    rw [List.length_map] at h2; rw [h2, hl a]
  refine fnG0 F S hlen fun cdv A' ou s H vs Q E hg hr h => ?_
  have hlv := hlen vs H Q E h
  obtain ⟨B, F0, a, r, hm, _, her, q⟩ := h
  refine ⟨_, pssC _, ?_⟩
  have hst : L2.start N vs = vs.map some ++ List.replicate n none := by unfold L2.start; rw [hlv, hn]
  rw [hst]
  refine hb cdv A' ou s H E hg hr a ⟨K, B, F0, H, []⟩ F0 H [] [] _ (fun z => z.elim) r { nx := fun _ H' => Q .non H', rt := Q } rfl rfl (her.padR n) hm (fun z => z.elim) (fun z => z.elim) (fun z => z.elim) ?_
  intro a' i v F' H' σ' e h'
  cases e
  exact q F' H' v h'.head
/-- the call of the law's def from the claim's caller: nothing but the script is held -/
theorem lawG1 {mb : Str → Option Value} {k : Nat} {fa a : Addr} {fd : FuncData} {x : Str} {sp : Sp} {s1 : Shared} {vs : List Value} {H : Hp} (KX : K.In s1.heap) (hns : s1.heap.Ns mainGlobals mg) (hb : s1.heap.Ns builtinsNs mb) (hbb : ∀ y : Str, y ≠ "__name__" → mb y = bootBuiltins y) (hlim : s1.heap.NoLimit) (hg : s1.gens = #[])
    (ha : s1.heap.get? a = some { cls := .type "list", data := .seq vs.toArray }) (hr : Room k callerA) (F : ∀ bs : Heap, K.In bs → bs.Ns mainGlobals mg → FnG P w K mg bs k fa fd [x] sp) (hbind : ∀ (s : Shared) (u : Value), BindsTo s fd ⟨[u], []⟩ [(x, u)])
    (hO : Only H) (hsp : sp [.ref a] H (fun v _ => v = .bl true) fun _ _ _ => False) (hok : HOk P w H s1.heap) (hA : ∀ b, H b ≠ none → b = a) (hK : H a ≠ none → K.lookup a = none) :
    codeAny (model P w) callerA (.call (.ref fa) ⟨[.ref a], []⟩) (fun r s' => r = .ok (.ret (.bool true)) ∧ OldK s1.heap s'.heap ∧ s'.os = s1.os ∧ AllBare s'.gens) s1 := by
  have up : ∀ {c : Addr} {o : Obj}, s1.heap.get? c = some o → H c = none → (hidT s1.heap H).get? c = some o := fun e n => hidT_get e n
  have free : ∀ {c : Addr} {o : Obj} {es : Array DictEntry} {ep : Nat}, s1.heap.get? c = some o → o.data = .dict es ep → H c = none := by
    intro c o es ep e d
    rcases q : H c with _ | u
    · rfl
    · have hc : c = a := hA c (by rw [q]; exact fun z => by cases z)
      rw [hc, ha] at e
      cases e
      cases (show Data.seq vs.toArray _ = Data.dict es ep from d)
  have nsUp : ∀ {c : Addr} {m : Str → Option Value}, s1.heap.Ns c m → (hidT s1.heap H).Ns c m := fun ⟨o, es, ep, e, d, r⟩ => ⟨o, es, ep, up e (free e d), d, r⟩
  have inUp : K.In (hidT s1.heap H) := by
    intro c o e
    refine up (KX c o e) ?_
    rcases q : H c with _ | u
    · rfl
    · have hc : c = a := hA c (by rw [q]; exact fun z => by cases z)
      subst hc
      have := hK (by rw [q]; exact fun z => by cases z)
      rw [this] at e; cases e
  have md : Mod K mg (hidT s1.heap H) := ⟨inUp, nsUp hns, ⟨mb, nsUp hb, hbb⟩, by obtain ⟨mc, h1, h2⟩ := hlim; exact ⟨mc, nsUp h1, h2⟩⟩
  have ev : Env0 P w K mg (hidT s1.heap H) callerA [] s1 H := by
    refine ⟨rfl, md, fun c o e => of_hidT e, Nat.le_of_eq (hidT_size _ _), trivial, fun c hc => ?_, hok, .of_eq hg⟩
    cases (show c ∈ ([] : List Addr) from hc)
  have run := (F _ inUp (nsUp hns)).go callerA [] s1 H ⟨[.ref a], []⟩ [.ref a] [.ref a] _ _ rfl hr ev (hbind s1 (.ref a)) (.cons rfl .nil) hsp
  refine codeAny_mono run fun r s' h => ?_
  match r, h with
  | .error e, h => exact False.elim h
  | .ok .next, h => exact False.elim h
  | .ok .brk, h => exact False.elim h
  | .ok .cont, h => exact False.elim h
  | .ok (.ret u), h =>
    obtain ⟨v, H2, os, bare, un, hok2, rv, q⟩ := h
    have hv : v = .bl true := q
    rw [hv] at rv
    have hu : u = Value.bool true := rv
    refine ⟨by rw [hu], OldK.of_keep fun c o e => ?_, os, bare⟩
    rcases q2 : H c with _ | g
    · exact un.keep c o e q2 (fun z => by cases (show c ∈ ([] : List Addr) from z)) (by simp)
    · rcases hO c with z | ⟨ob, xs, z⟩
      · rw [q2] at z; cases z
      · have e1 := (hok c _ z).1
        have e2 := (hok2 c _ (un.frzs c ob _ z)).1
        rw [e] at e1; cases e1
        exact e2
theorem lawG {mb : Str → Option Value} {k : Nat} {fa a : Addr} {fd : FuncData} {x : Str} {sp : Sp} {s1 : Shared} {vs : List Value} {ns : List Int} (KX : K.In s1.heap) (hns : s1.heap.Ns mainGlobals mg) (hb : s1.heap.Ns builtinsNs mb) (hbb : ∀ y : Str, y ≠ "__name__" → mb y = bootBuiltins y) (hlim : s1.heap.NoLimit) (hg : s1.gens = #[])
    (ha : s1.heap.get? a = some { cls := .type "list", data := .seq vs.toArray }) (hi : IntsAre vs ns) (hl : ns.length ≤ sizeLine) (hr : Room k callerA) (F : ∀ bs : Heap, K.In bs → bs.Ns mainGlobals mg → FnG P w K mg bs k fa fd [x] sp) (hbind : ∀ (s : Shared) (u : Value), BindsTo s fd ⟨[u], []⟩ [(x, u)])
    (hsp : ∀ H : Hp, Only H → SqL K H a (ns.map V.int) → sp [.ref a] H (fun v _ => v = .bl true) fun _ _ _ => False) :
    codeAny (model P w) callerA (.call (.ref fa) ⟨[.ref a], []⟩) (fun r s' => r = .ok (.ret (.bool true)) ∧ OldK s1.heap s'.heap ∧ s'.os = s1.os ∧ AllBare s'.gens) s1 := by
  have rv := vals_ints hi
  have hlen := hi.length
  rcases hk : K.lookup a with _ | o
  · have hO : Only (fun c => if c = a then some (.frz { cls := .type "list", data := .seq vs.toArray } (.lst (ns.map V.int))) else none) := fun c => by
      by_cases z : c = a
      · exact .inr ⟨_, _, if_pos z⟩
      · exact .inl (if_neg z)
    refine lawG1 KX hns hb hbb hlim hg ha hr F hbind hO (hsp _ hO (.inl (.inr ⟨_, if_pos rfl⟩))) (fun c u z => ?_) (fun c z => ?_) (fun _ => hk)
    · by_cases q : c = a
      · rw [if_pos q] at z
        cases z
        rw [q]
        exact ⟨ha, by rw [List.length_map]; exact hl, vs, _, rv, ha⟩
      · rw [if_neg q] at z; cases z
    · by_cases q : c = a
      · exact q
      · exact absurd (if_neg q) z
  · have e := KX a o hk
    rw [ha] at e
    cases e
    refine lawG1 (H := fun _ => none) KX hns hb hbb hlim hg ha hr F hbind (fun _ => .inl rfl) (hsp _ (fun _ => .inl rfl) (.inr ⟨_, vs.toArray, _, hk, rfl, rfl, rfl, by rw [List.size_toArray, hlen]; exact hl, by simpa using rv⟩)) (fun c u z => by cases (show (none : Option HO) = some u from z)) (fun c z => absurd rfl z) (fun z => absurd rfl z)
end
theorem walkG {l : PySem.W.OpenLaw} {n k : Nat} {q : Program} {loose : List Str} {XP : (Str → Option Value) → Heap → Prop} {YP : World → Heap → Prop} {d : DefRec} {K : Params → Fg} {sp : World → Sp} {x : Str} (hn : l.most = some n) (hn2 : n ≤ sizeLine) (hdf : d.params.defaults = []) (hr : Room k callerA) (hY : ∀ (w : World) (h : Heap), YP w h → (K w.params).In h)
    (F : ∀ (w : World) (mg : Str → Option Value) (fa : Addr) (h : Heap), (K w.params).In h → h.Ns mainGlobals mg → mg d.name = some (.ref fa) → ∃ fd : FuncData, (∀ (s : Shared) (u : Value), BindsTo s fd ⟨[u], []⟩ [(x, u)]) ∧ ∀ bs : Heap, (K w.params).In bs → bs.Ns mainGlobals mg → FnG l.prog w (K w.params) mg bs k fa fd [x] (sp w))
    (hsp : ∀ (w : World) (H : Hp) (a : Addr) (ns : List Int), ns.length ≤ n → Only H → SqL (K w.params) H a (ns.map V.int) → sp w [.ref a] H (fun v _ => v = .bl true) fun _ _ _ => False) :
    PySem.W.WalkO q loose XP YP l.row.toRowW d [] (fun f vs => PySem.call f vs) := by
  refine Att.attach_call hn hdf fun w s0 s1 mg mb fa o pm cd doc a vs ns G Y ho hd hcd hmg hobj hints hlen hg => ?_
  obtain ⟨fd, hbd, hF⟩ := F w mg fa _ (hY w _ Y) G.T.g hmg
  exact lawG (hY w _ Y) G.T.g G.T.b G.T.builtins G.T.nolimit hg hobj hints (Nat.le_trans hlen hn2) hr hF hbd fun H hO hS => hsp w H a ns hlen hO hS
end Z

set_option Elab.async false
set_option linter.all false
set_option maxRecDepth 100000
namespace Z
open PySem PySem.Spec PyProof.Rows L2

/-! ### repr of data -/
def showOk (d : PyData) : Bool := d.canLay0 && d.showable && decide (d.depth ≤ 60) && decide (d.shown.length ≤ sizeLine)
/-- the text of a datum, where it can be told -/
def reprO (d : PyData) : Option Str := if showOk d = true then some d.shown else none
def rRepr (K : Fg) : List V → Hp → VK → Prop := fun vs H Q => ∃ (v : V) (d : PyData), vs = [v] ∧ Dp K H v d ∧ showOk d = true ∧ Q (.str d.shown) H
theorem cr_repr {X : Cx} (hg : X.A.guards = some []) (hu : X.A.units + 64 < cLine) : CallR X (.builtin "repr") (rRepr X.K) := by
  intro pins s σ H vs us Q I r h
  obtain ⟨v, d, rfl, hd, hs, q⟩ := h
  simp only [showOk, Bool.and_eq_true, decide_eq_true_eq] at hs
  obtain ⟨⟨⟨s1, s2⟩, s3⟩, s4⟩ := hs
  obtain ⟨u, rfl, rv⟩ := vals1 r
  obtain ⟨as, hr⟩ := Dp.reads I d v u hd rv
  have nodict : d.hasDict = true → sysModules ∉ as := PyData.noDict_hsm (PyData.hasDict_of_canLay d s1)
  cases hd with
  | non =>
    have e : u = .none := rv
    subst e
    exact PySem.P.repr_of_none ⟨.str _, H, I.tok _, ⟨_, by rw [PyData.shown]⟩, q⟩
  | bl b =>
    have e : u = .bool b := rv
    subst e
    exact PySem.P.repr_of_bool ⟨.str _, H, I.tok _, ⟨_, by rw [PyData.shown]⟩, q⟩
  | int i =>
    obtain ⟨t, rfl⟩ := rv
    exact PySem.P.repr_of_int (by simpa [PyData.showable] using s2) ⟨.str _, H, I.tok _, ⟨_, by rw [PyData.shown]⟩, q⟩
  | str x =>
    obtain ⟨t, rfl⟩ := rv
    exact PySem.P.repr_of_str ⟨.str _, H, I.tok _, ⟨_, by rw [PyData.shown]⟩, q⟩ (by rw [PyData.shown] at s4; exact s4)
  | lst h1 h2 =>
    have e := (show u = Value.ref _ from rv)
    subst e
    exact PySem.repr_of_reads' hr s2 nodict hg (by omega) (fun b o e => e) (fun h' u tk hk => ⟨.str _, H, I.kept hk, ⟨u, rfl⟩, q⟩) s4
  | tup h1 h2 =>
    have e := (show u = Value.ref _ from rv)
    subst e
    exact PySem.repr_of_reads' hr s2 nodict hg (by omega) (fun b o e => e) (fun h' u tk hk => ⟨.str _, H, I.kept hk, ⟨u, rfl⟩, q⟩) s4
section
variable {X : Cx} {Ω : Type} {env : Env} {pos np : Pos} {a : Expr} {P τ : Type} {S : Stor τ} {E : Enc τ} {e' : P → Env} {G : Env → Prop} {f : (τ → P → Option Ω) → Option Ω}
theorem lx_repr (hgd : X.A.guards = some []) (hu : X.A.units + 64 < cLine) (dv : Dv S E) (hm : X.mg "repr" = none) (ha : LO X G env a S e' f) (hG : ∀ p, G (e' p)) (hg : Gl X "repr" := by rfl) (he : starEach (a :: []) X.env = (false, eval a X.env) :: starEach [] X.env := by rfl) (hpl : (backTo pos (starEach [] X.env)).any (·.1) = false := by rfl) :
    LX X env (.Call (.Name "repr" np) [a] [] pos) (it eS) e' (fun k => f fun x p => (reprO (E.enc x)).bind fun y => k y p) :=
  lx_b1 (E := eS) (g := fun x : τ => reprO (E.enc x)) (cr_repr hgd hu) hm PyProof.Rows.boot_repr ha hG (fun K F H fp v x y Q hK s hy r q => by
    unfold reprO at hy
    by_cases c : showOk (E.enc x) = true
    · rw [if_pos c] at hy
      cases hy
      have hl : (E.enc x).canLay0 = true := by
        simp only [showOk, Bool.and_eq_true, decide_eq_true_eq] at c
        exact c.1.1.1
      exact ⟨v, E.enc x, rfl, by rw [← hK]; exact dv.dp s hl r, c, q _ (.str _)⟩
    · rw [if_neg c] at hy; cases hy) hg (by decide) (by decide) he hpl
end
section
variable {X : Cx} {Ω : Type} {env : Env} {pos : Pos} {a b : Expr} {P1 P2 : Type} {e1 : P1 → Env} {e2 : P1 → P2 → Env} {fa : (Str → P1 → Option Ω) → Option Ω} {fb : P1 → (Str → P2 → Option Ω) → Option Ω}
theorem lc_txt {op : CmpOp} {r : R2} {g : Str → Str → Bool} (ho : OpR X (compareOp op) r) (hr : ∀ i j H (Q : VK), Q (.bl (g i j)) H → r (.str i) (.str j) H Q) (ha : LX X env a (it eS) e1 fa) (hb : ∀ p1, LX X (e1 p1) b (it eS) (e2 p1) (fb p1)) :
    LC X env op a b (fun p : P1 × P2 => e2 p.1 p.2) (fun k => fa fun x p1 => fb p1 fun y p2 => k (g x y) (p1, p2)) :=
  lc_cmp ho (lo_of ha) (fun p1 => lo_of (hb p1)) (fun _ _ => trivial) (fun _ _ => trivial) fun K F H fp fq v u x y Q _ _ r1 r2 q => by
    obtain ⟨_, r1⟩ := r1
    obtain ⟨_, r2⟩ := r2
    cases r1; cases r2
    exact hr x y H Q q
theorem lc_eqS (ha : LX X env a (it eS) e1 fa) (hb : ∀ p1, LX X (e1 p1) b (it eS) (e2 p1) (fb p1)) : LC X env .Eq a b (fun p : P1 × P2 => e2 p.1 p.2) (fun k => fa fun x p1 => fb p1 fun y p2 => k (decide (x = y)) (p1, p2)) :=
  lc_txt op_eq (fun i j _ _ q => ⟨rfl, by simpa using q⟩) ha hb
theorem lc_neS (ha : LX X env a (it eS) e1 fa) (hb : ∀ p1, LX X (e1 p1) b (it eS) (e2 p1) (fb p1)) : LC X env .NotEq a b (fun p : P1 × P2 => e2 p.1 p.2) (fun k => fa fun x p1 => fb p1 fun y p2 => k (!decide (x = y)) (p1, p2)) :=
  lc_txt op_ne (fun i j _ _ q => ⟨rfl, by simpa using q⟩) ha hb
end
/-! ### in -/
def inB {τ : Type} [DecidableEq τ] (x : τ) (ys : List τ) : Bool := ys.any fun z => decide (z = x)
theorem inB_iff {τ : Type} [DecidableEq τ] {x : τ} {ys : List τ} : inB x ys = true ↔ x ∈ ys := by
  unfold inB
  rw [List.any_eq_true]
  exact ⟨fun ⟨z, hz, e⟩ => by rw [← of_decide_eq_true e]; exact hz, fun h => ⟨x, h, decide_eq_true rfl⟩⟩
section
variable {X : Cx} {Ω : Type} {env : Env} {a b : Expr} {P1 P2 τ1 : Type} {S1 : Stor τ1} {E1 : Enc τ1} {e1 : P1 → Env} {e2 : P1 → P2 → Env} {G1 : Env → Prop} {G2 : P1 → Env → Prop} {fa : (τ1 → P1 → Option Ω) → Option Ω}
theorem any_in [DecidableEq τ1] (ev : Ev E1) (x : τ1) (ys : List τ1) : ((ys.map E1.enc).any fun z => PyData.eqv z (E1.enc x)) = inB x ys := by
  rw [Bool.eq_iff_iff, inB_iff, List.any_eq_true]
  constructor
  · rintro ⟨z, hz, e⟩
    obtain ⟨y, hy, rfl⟩ := List.mem_map.1 hz
    rw [ev.eq, decide_eq_true_eq] at e
    rw [← e]; exact hy
  · intro h
    exact ⟨_, List.mem_map.2 ⟨x, h, rfl⟩, by rw [ev.eq]; exact decide_eq_true rfl⟩
theorem lc_inT [DecidableEq τ1] {S2 : Stor (List τ1)} {fb : P1 → (List τ1 → P2 → Option Ω) → Option Ω} {n : Nat} (hu : X.A.units + 65 < cLine) (d1 : Dv S1 E1) (d2 : Dv S2 (eL E1)) (t : Dt E1 n) (ev : Ev E1) (ha : LO X G1 env a S1 e1 fa) (hb : ∀ p1, LO X (G2 p1) (e1 p1) b S2 (e2 p1) (fb p1)) (g1 : ∀ p1 p2, G1 (e2 p1 p2)) (g2 : ∀ p1 p2, G2 p1 (e2 p1 p2)) (hn : n + 1 ≤ 64 := by decide) :
    LC X env .In a b (fun p : P1 × P2 => e2 p.1 p.2) (fun k => fa fun x p1 => fb p1 fun y p2 => k (inB x y) (p1, p2)) :=
  lc_cmp (op_inD hu) ha hb g1 g2 fun K F H fp fq v u x y Q hK s r1 r2 q => by
    subst hK
    exact ⟨_, _, d1.dp s (t.lay x) r1, d2.dp s ((dtL t).lay y) r2, shaped_of (t.lay x) (Nat.le_trans (t.dep x) (by omega)), shaped_of ((dtL t).lay y) (Nat.le_trans ((dtL t).dep y) hn), by rw [any_in ev]; exact q⟩
theorem lc_notInT [DecidableEq τ1] {S2 : Stor (List τ1)} {fb : P1 → (List τ1 → P2 → Option Ω) → Option Ω} {n : Nat} (hu : X.A.units + 65 < cLine) (d1 : Dv S1 E1) (d2 : Dv S2 (eL E1)) (t : Dt E1 n) (ev : Ev E1) (ha : LO X G1 env a S1 e1 fa) (hb : ∀ p1, LO X (G2 p1) (e1 p1) b S2 (e2 p1) (fb p1)) (g1 : ∀ p1 p2, G1 (e2 p1 p2)) (g2 : ∀ p1 p2, G2 p1 (e2 p1 p2)) (hn : n + 1 ≤ 64 := by decide) :
    LC X env .NotIn a b (fun p : P1 × P2 => e2 p.1 p.2) (fun k => fa fun x p1 => fb p1 fun y p2 => k (!inB x y) (p1, p2)) :=
  lc_cmp (op_notInD hu) ha hb g1 g2 fun K F H fp fq v u x y Q hK s r1 r2 q => by
    subst hK
    exact ⟨_, _, d1.dp s (t.lay x) r1, d2.dp s ((dtL t).lay y) r2, shaped_of (t.lay x) (Nat.le_trans (t.dep x) (by omega)), shaped_of ((dtL t).lay y) (Nat.le_trans ((dtL t).dep y) hn), by rw [any_in ev]; exact q⟩
end
end Z

set_option Elab.async false
set_option linter.all false
set_option maxRecDepth 100000
namespace Z
open PySem PySem.Spec PyProof.Rows L2

/-! ### spans (y, first, last) in plain words -/
abbrev Sp3 := Int × Int × Int
/-- x, y lies in a span -/
def InS (R : List Sp3) (x y : Int) : Prop := ∃ s ∈ R, s.1 = y ∧ s.2.1 ≤ x ∧ x ≤ s.2.2
/-- in order, with gaps -/
def Can (R : List Sp3) : Prop := (∀ s ∈ R, s.2.1 ≤ s.2.2) ∧ R.Pairwise fun s t => s.1 < t.1 ∨ (s.1 = t.1 ∧ s.2.2 + 1 < t.2.1)
theorem InS.nil {x y : Int} : ¬ InS [] x y := fun ⟨_, m, _⟩ => nomatch m
theorem InS.cons {s : Sp3} {R : List Sp3} {x y : Int} : InS (s :: R) x y ↔ (s.1 = y ∧ s.2.1 ≤ x ∧ x ≤ s.2.2) ∨ InS R x y := by
  constructor
  · rintro ⟨t, m, h⟩
    rcases List.mem_cons.1 m with rfl | m
    · exact .inl h
    · exact .inr ⟨t, m, h⟩
  · rintro (h | ⟨t, m, h⟩)
    · exact ⟨s, List.mem_cons_self .., h⟩
    · exact ⟨t, List.mem_cons_of_mem _ m, h⟩
theorem InS.app {R S : List Sp3} {x y : Int} : InS (R ++ S) x y ↔ InS R x y ∨ InS S x y := by
  constructor
  · rintro ⟨t, m, h⟩
    rcases List.mem_append.1 m with m | m
    · exact .inl ⟨t, m, h⟩
    · exact .inr ⟨t, m, h⟩
  · rintro (⟨t, m, h⟩ | ⟨t, m, h⟩)
    · exact ⟨t, List.mem_append_left _ m, h⟩
    · exact ⟨t, List.mem_append_right _ m, h⟩
theorem Can.tail {s : Sp3} {R : List Sp3} (h : Can (s :: R)) : Can R := ⟨fun t m => h.1 t (List.mem_cons_of_mem _ m), (List.pairwise_cons.1 h.2).2⟩
theorem Can.out {s : Sp3} {R : List Sp3} {x : Int} (h : Can (s :: R)) : InS R x s.1 → s.2.2 + 1 < x := by
  rintro ⟨t, m, e, a, b⟩
  rcases (List.pairwise_cons.1 h.2).1 t m with q | ⟨_, q⟩
  · omega
  · omega
theorem Can.head {s : Sp3} {R : List Sp3} {x y : Int} (h : Can (s :: R)) : InS (s :: R) x y → s.1 < y ∨ (s.1 = y ∧ s.2.1 ≤ x) := by
  rintro ⟨t, m, e, a, b⟩
  rcases List.mem_cons.1 m with rfl | m
  · exact .inr ⟨e, a⟩
  · have v := h.1 s (List.mem_cons_self ..)
    rcases (List.pairwise_cons.1 h.2).1 t m with q | ⟨q1, q⟩
    · exact .inl (by omega)
    · exact .inr ⟨by omega, by omega⟩
/-- one normal form for one set of cells -/
theorem Can.uniq : ∀ {R S : List Sp3}, Can R → Can S → (∀ x y, InS R x y ↔ InS S x y) → R = S
  | [], [], _, _, _ => rfl
  | [], t :: S, _, hS, h => absurd ((h t.2.1 t.1).2 ⟨t, List.mem_cons_self .., rfl, Int.le_refl _, hS.1 t (List.mem_cons_self ..)⟩) InS.nil
  | s :: R, [], hR, _, h => absurd ((h s.2.1 s.1).1 ⟨s, List.mem_cons_self .., rfl, Int.le_refl _, hR.1 s (List.mem_cons_self ..)⟩) InS.nil
  | s :: R, t :: S, hR, hS, h => by
    have vs := hR.1 s (List.mem_cons_self ..)
    have vt := hS.1 t (List.mem_cons_self ..)
    have a1 := hS.head ((h s.2.1 s.1).1 ⟨s, List.mem_cons_self .., rfl, Int.le_refl _, vs⟩)
    have a2 := hR.head ((h t.2.1 t.1).2 ⟨t, List.mem_cons_self .., rfl, Int.le_refl _, vt⟩)
    have e1 : s.1 = t.1 := by omega
    have e2 : s.2.1 = t.2.1 := by omega
    have e3 : s.2.2 = t.2.2 := by
      rcases Int.lt_trichotomy s.2.2 t.2.2 with q | q | q
      · have := (h (s.2.2 + 1) s.1).2 ⟨t, List.mem_cons_self .., e1.symm, by omega, by omega⟩
        rcases InS.cons.1 this with z | z
        · omega
        · have := hR.out z; omega
      · exact q
      · have := (h (t.2.2 + 1) t.1).1 ⟨s, List.mem_cons_self .., e1, by omega, by omega⟩
        rcases InS.cons.1 this with z | z
        · omega
        · have := hS.out z; omega
    have est : s = t := Prod.ext e1 (Prod.ext e2 e3)
    subst est
    rw [Can.uniq hR.tail hS.tail fun x y => ?_]
    have hh := h x y
    rw [InS.cons, InS.cons] at hh
    constructor
    · intro z
      rcases hh.1 (.inr z) with q | q
      · have := hR.out (x := x) (by rw [q.1]; exact z); omega
      · exact q
    · intro z
      rcases hh.2 (.inr z) with q | q
      · have := hS.out (x := x) (by rw [q.1]; exact z); omega
      · exact q
/-- one span more, behind all others in order of (y, first) -/
def stepJ (R : List Sp3) (s : Sp3) : List Sp3 := match R.getLast? with
  | some l => if l.1 = s.1 ∧ s.2.1 ≤ l.2.2 + 1 then R.dropLast ++ [(s.1, l.2.1, max l.2.2 s.2.2)] else R ++ [(s.1, s.2.1, s.2.2)]
  | none => R ++ [(s.1, s.2.1, s.2.2)]
/-- all of R begins at or ahead of (y, x) -/
def Ahead (R : List Sp3) (y x : Int) : Prop := ∀ t ∈ R, t.1 < y ∨ (t.1 = y ∧ t.2.1 ≤ x)
theorem stepJ_ok {R : List Sp3} {s : Sp3} (h : Can R) (v : s.2.1 ≤ s.2.2) (ha : Ahead R s.1 s.2.1) :
    Can (stepJ R s) ∧ (∀ x y, InS (stepJ R s) x y ↔ InS R x y ∨ (s.1 = y ∧ s.2.1 ≤ x ∧ x ≤ s.2.2)) ∧ Ahead (stepJ R s) s.1 s.2.1 ∧ (stepJ R s).length ≤ R.length + 1 := by
  have fresh : (∀ l, R.getLast? = some l → ¬ (l.1 = s.1 ∧ s.2.1 ≤ l.2.2 + 1)) → Can (R ++ [s]) ∧ (∀ x y, InS (R ++ [s]) x y ↔ InS R x y ∨ (s.1 = y ∧ s.2.1 ≤ x ∧ x ≤ s.2.2)) ∧ Ahead (R ++ [s]) s.1 s.2.1 ∧ (R ++ [s]).length ≤ R.length + 1 := fun hl => by
    refine ⟨⟨fun t m => ?_, List.pairwise_append.2 ⟨h.2, List.pairwise_singleton .., fun t m u mu => ?_⟩⟩, fun x y => ?_, fun t m => ?_, by simp⟩
    · rcases List.mem_append.1 m with m | m
      · exact h.1 t m
      · rw [List.mem_singleton] at m; subst m; exact v
    · rw [List.mem_singleton] at mu; subst mu
      rcases ha t m with q | ⟨q1, q2⟩
      · exact .inl q
      · refine .inr ⟨q1, ?_⟩
        -- t is no later than the last
        rcases List.eq_nil_or_concat R with e | ⟨R', l, e⟩
        · subst e; cases m
        · subst e
          have nl := hl l (by simp)
          rw [List.concat_eq_append] at m h
          rcases List.mem_append.1 m with m | m
          · have o := (List.pairwise_append.1 h.2).2.2 t m l (by simp)
            have vl := h.1 l (by simp)
            have al := ha l (by simp)
            omega
          · rw [List.mem_singleton] at m; subst m
            omega
    · rw [InS.app, InS.cons]
      constructor
      · rintro (q | q | q)
        · exact .inl q
        · exact .inr q
        · exact absurd q InS.nil
      · rintro (q | q)
        · exact .inl q
        · exact .inr (.inl q)
    · rcases List.mem_append.1 m with m | m
      · exact ha t m
      · rw [List.mem_singleton] at m; subst m; exact .inr ⟨rfl, Int.le_refl _⟩
  unfold stepJ
  rcases List.eq_nil_or_concat R with e | ⟨R', l, e⟩
  · subst e
    exact fresh fun l z => by simp at z
  · subst e
    rw [List.concat_eq_append] at h ha fresh ⊢
    rw [show (R' ++ [l]).getLast? = some l by simp]
    dsimp only
    by_cases c : l.1 = s.1 ∧ s.2.1 ≤ l.2.2 + 1
    · rw [if_pos c, show (R' ++ [l]).dropLast = R' by simp]
      have vl := h.1 l (by simp)
      have al := ha l (by simp)
      have pw := List.pairwise_append.1 h.2
      refine ⟨⟨fun t m => ?_, List.pairwise_append.2 ⟨pw.1, List.pairwise_singleton .., fun t m u mu => ?_⟩⟩, fun x y => ?_, fun t m => ?_, by simp⟩
      · rcases List.mem_append.1 m with m | m
        · exact h.1 t (by simp [m])
        · rw [List.mem_singleton] at m; subst m; dsimp only; omega
      · rw [List.mem_singleton] at mu; subst mu
        have := pw.2.2 t m l (by simp)
        dsimp only; omega
      · rw [InS.app, InS.app, InS.cons, InS.cons]
        dsimp only
        constructor
        · rintro (q | q | q)
          · exact .inl (.inl q)
          · by_cases z : x ≤ l.2.2
            · exact .inl (.inr (.inl (by omega)))
            · exact .inr (by omega)
          · exact absurd q InS.nil
        · rintro ((q | q | q) | q)
          · exact .inl q
          · exact .inr (.inl (by omega))
          · exact absurd q InS.nil
          · exact .inr (.inl (by omega))
      · rcases List.mem_append.1 m with m | m
        · exact ha t (by simp [m])
        · rw [List.mem_singleton] at m; subst m; exact .inr ⟨rfl, by dsimp only; omega⟩
    · rw [if_neg c]
      exact fresh fun l' z => by simp at z; subst z; exact c
/-- a row of spans in order of (y, first): all of them, in normal form -/
theorem foldJ_ok : ∀ (L R : List Sp3), Can R → (∀ s ∈ L, s.2.1 ≤ s.2.2) → (∀ s ∈ L, Ahead R s.1 s.2.1) → L.Pairwise (fun s t => s.1 < t.1 ∨ (s.1 = t.1 ∧ s.2.1 ≤ t.2.1)) →
    Can (L.foldl stepJ R) ∧ (∀ x y, InS (L.foldl stepJ R) x y ↔ InS R x y ∨ InS L x y) ∧ (L.foldl stepJ R).length ≤ R.length + L.length
  | [], R, h, _, _, _ => ⟨h, fun x y => ⟨.inl, fun z => z.elim id fun q => absurd q InS.nil⟩, by simp⟩
  | s :: L, R, h, hv, ha, hp => by
    obtain ⟨p1, p2⟩ := List.pairwise_cons.1 hp
    obtain ⟨s1, s2, s3, s4⟩ := stepJ_ok h (hv s (List.mem_cons_self ..)) (ha s (List.mem_cons_self ..))
    obtain ⟨i1, i2, i3⟩ := foldJ_ok L (stepJ R s) s1 (fun t m => hv t (List.mem_cons_of_mem _ m)) (fun t m u mu => by
      have a := s3 u mu
      have b := p1 t m
      omega) p2
    refine ⟨i1, fun x y => ?_, by rw [List.length_cons]; show (L.foldl stepJ (stepJ R s)).length ≤ _; omega⟩
    show InS (L.foldl stepJ (stepJ R s)) x y ↔ _
    rw [i2, s2, InS.cons]
    constructor
    · rintro ((q | q) | q)
      · exact .inl q
      · exact .inr (.inl q)
      · exact .inr (.inr q)
    · rintro (q | q | q)
      · exact .inl (.inl q)
      · exact .inl (.inr q)
      · exact .inr q
end Z

set_option Elab.async false
set_option linter.all false
set_option maxRecDepth 100000
namespace Z
open PySem PySem.Spec PyProof.Rows L2

/-! ### sorting of pairs and triples; walks that grow -/
theorem forO_grow {α β Ω : Type} (g : List β → α → List β) (N : Nat) (hg : ∀ s x, (g s x).length ≤ s.length + 1) {b : α → List β → (List β → Option Ω) → Option Ω} {k : List β → Option Ω} : ∀ (xs : List α) (s : List β), s.length + xs.length ≤ N →
    (∀ x ∈ xs, ∀ s kc, s.length + 1 ≤ N → b x s kc = kc (g s x)) → forO xs s b k = k (xs.foldl g s)
  | [], s, _, _ => rfl
  | x :: xs, s, hl, h => by
    rw [List.length_cons] at hl
    refine (h x (List.mem_cons_self ..) s _ (by omega)).trans ?_
    have := hg s x
    exact forO_grow g N hg xs (g s x) (by omega) fun y m => h y (List.mem_cons_of_mem _ m)
theorem lt3_no {x y : Sp3} : lt3 ltI ltI ltI x y = false ↔ ¬(x.1 < y.1 ∨ (x.1 = y.1 ∧ (x.2.1 < y.2.1 ∨ (x.2.1 = y.2.1 ∧ x.2.2 < y.2.2)))) := by
  unfold lt3 ltI
  by_cases c : x.1 = y.1
  · rw [if_pos c]
    by_cases d : x.2.1 = y.2.1
    · rw [if_pos d, decide_eq_false_iff_not]; omega
    · rw [if_neg d, decide_eq_false_iff_not]; omega
  · rw [if_neg c, decide_eq_false_iff_not]; omega
theorem lt3_yes {x y : Sp3} : lt3 ltI ltI ltI x y = true ↔ (x.1 < y.1 ∨ (x.1 = y.1 ∧ (x.2.1 < y.2.1 ∨ (x.2.1 = y.2.1 ∧ x.2.2 < y.2.2)))) := by
  rw [← Bool.not_eq_false, lt3_no]
  exact Classical.not_not
theorem sort3_pw (l : List Sp3) : (sortB (lt3 ltI ltI ltI) l).Pairwise fun s t => s.1 < t.1 ∨ (s.1 = t.1 ∧ s.2.1 ≤ t.2.1) := by
  have := List.pairwise_mergeSort (le := fun x y : Sp3 => !lt3 ltI ltI ltI y x) (fun a b c h1 h2 => by
    simp only [Bool.not_eq_true'] at h1 h2 ⊢
    rw [lt3_no] at h1 h2 ⊢; omega) (fun a b => by
    cases h : lt3 ltI ltI ltI b a with
    | false => rfl
    | true =>
      have : lt3 ltI ltI ltI a b = false := by
        rw [lt3_yes] at h; rw [lt3_no]; omega
      rw [this]; rfl) l
  exact this.imp fun {a b} h => by
    have h' : lt3 ltI ltI ltI b a = false := by simpa using h
    rw [lt3_no] at h'; omega
theorem sort2_pw (l : List (Int × Int)) : (sortB lpp l).Pairwise fun s t => s.1 < t.1 ∨ (s.1 = t.1 ∧ s.2 ≤ t.2) := by
  have := List.pairwise_mergeSort (le := fun x y : Int × Int => !lpp y x) (fun a b c h1 h2 => by
    simp only [Bool.not_eq_true'] at h1 h2 ⊢
    rw [lpp_no] at h1 h2 ⊢; omega) (fun a b => by
    cases h : lpp b a with
    | false => rfl
    | true =>
      have : lpp a b = false := by
        rw [lpp_iff] at h; rw [lpp_no]; omega
      rw [this]; rfl) l
  exact this.imp fun {a b} h => by
    have h' : lpp b a = false := by simpa using h
    rw [lpp_no] at h'; omega
theorem sortB_mem {α : Type} {lt : α → α → Bool} {l : List α} {x : α} : x ∈ sortB lt l ↔ x ∈ l := (List.mergeSort_perm _ _).mem_iff
theorem sortB_len {α : Type} {lt : α → α → Bool} {l : List α} : (sortB lt l).length = l.length := (List.mergeSort_perm _ _).length_eq
theorem InS.same {R S : List Sp3} (h : ∀ s, s ∈ R ↔ s ∈ S) {x y : Int} : InS R x y ↔ InS S x y :=
  ⟨fun ⟨s, m, q⟩ => ⟨s, (h s).1 m, q⟩, fun ⟨s, m, q⟩ => ⟨s, (h s).2 m, q⟩⟩
theorem Can.nil : Can [] := ⟨fun _ m => (nomatch m), List.Pairwise.nil⟩
/-- the normal form of any spans -/
theorem norm_ok {L : List Sp3} (hv : ∀ s ∈ L, s.2.1 ≤ s.2.2) : Can ((sortB (lt3 ltI ltI ltI) L).foldl stepJ []) ∧ (∀ x y, InS ((sortB (lt3 ltI ltI ltI) L).foldl stepJ []) x y ↔ InS L x y) ∧ ((sortB (lt3 ltI ltI ltI) L).foldl stepJ []).length ≤ L.length := by
  obtain ⟨a, b, c⟩ := foldJ_ok (sortB (lt3 ltI ltI ltI) L) [] Can.nil (fun s m => hv s (sortB_mem.1 m)) (fun s _ t m => nomatch m) (sort3_pw L)
  refine ⟨a, fun x y => ?_, by rw [sortB_len] at c; simpa using c⟩
  rw [b, InS.same (fun s => sortB_mem)]
  exact ⟨fun z => z.elim (fun q => absurd q InS.nil) id, .inr⟩
/-- of cells, told as (y, x) -/
def spanOf (p : Int × Int) : Sp3 := (p.1, p.2, p.2)
theorem cells_ok {L : List (Int × Int)} : Can (((sortB lpp (L.map fun c => (c.2, c.1))).map spanOf).foldl stepJ []) ∧ (∀ x y, InS (((sortB lpp (L.map fun c => (c.2, c.1))).map spanOf).foldl stepJ []) x y ↔ (x, y) ∈ L) ∧ (((sortB lpp (L.map fun c => (c.2, c.1))).map spanOf).foldl stepJ []).length ≤ L.length := by
  obtain ⟨a, b, c⟩ := foldJ_ok ((sortB lpp (L.map fun c => (c.2, c.1))).map spanOf) [] Can.nil (fun s m => by
    obtain ⟨p, _, rfl⟩ := List.mem_map.1 m; exact Int.le_refl _) (fun s _ t m => nomatch m) (List.pairwise_map.2 ((sort2_pw _).imp fun h => h))
  refine ⟨a, fun x y => ?_, by rw [List.length_map, sortB_len, List.length_map] at c; simpa using c⟩
  rw [b]
  constructor
  · rintro (q | ⟨s, m, q⟩)
    · exact absurd q InS.nil
    · obtain ⟨p, mp, rfl⟩ := List.mem_map.1 m
      obtain ⟨d, md, rfl⟩ := List.mem_map.1 (sortB_mem.1 mp)
      have e : d = (x, y) := by
        simp only [spanOf] at q
        exact Prod.ext (by show d.1 = x; omega) q.1
      rw [← e]; exact md
  · intro m
    exact .inr ⟨(y, x, x), List.mem_map.2 ⟨(y, x), sortB_mem.2 (List.mem_map.2 ⟨(x, y), m, rfl⟩), rfl⟩, rfl, Int.le_refl _, Int.le_refl _⟩
theorem stepJ_len (R : List Sp3) (s : Sp3) : (stepJ R s).length ≤ R.length + 1 := by
  unfold stepJ
  rcases List.eq_nil_or_concat R with e | ⟨R', l, e⟩
  · subst e; simp
  · subst e
    rw [List.concat_eq_append, show (R' ++ [l]).getLast? = some l by simp]
    dsimp only
    split <;> simp
theorem ixN_last {α : Type} {l : List α} {a : α} : ixN (l ++ [a]).length (-(1 : Int)) = some l.length := by
  unfold ixN
  rw [if_neg (by decide), if_pos (by simp; omega)]
  have : (-(1 : Int) + ((l ++ [a]).length : Int)).toNat = l.length := by simp; omega
  rw [this]
theorem set_last {α : Type} {l : List α} {a b : α} : (l ++ [a]).set l.length b = l ++ [b] := by
  rw [List.set_append_right _ _ (Nat.le_refl _), Nat.sub_self]; rfl
/-- how the last of a row is looked at: the program's way -/
theorem stepJ_run {Ω : Type} {t : List Sp3} {x : Sp3} {kc : List Sp3 → Option Ω} (hl : t.length + 1 ≤ SZ) :
    (if (decide ((0 : Int) < (List.length t : Int))) = true then ((atI t (-(1 : Int))).bind fun y69 =>
      if (decide (y69.1 = x.1)) = true then ((atI t (-(1 : Int))).bind fun y75 =>
        if (decide (x.2.1 ≤ (y75.2.2 + (1 : Int)))) = true then ((atI t (-(1 : Int))).bind fun y83 =>
          (atI t (-(1 : Int))).bind fun y86 =>
          (ixN (List.length t) (-(1 : Int))).bind fun n94 => kc (List.set t n94 (x.1, y83.2.1, (max y86.2.2 x.2.2))))
        else ck (decide (List.length t < SZ)) (kc (t ++ [(x.1, x.2.1, x.2.2)])))
      else (if false = true then ((atI t (-(1 : Int))).bind fun y83 =>
          (atI t (-(1 : Int))).bind fun y86 =>
          (ixN (List.length t) (-(1 : Int))).bind fun n94 => kc (List.set t n94 (x.1, y83.2.1, (max y86.2.2 x.2.2)))) else ck (decide (List.length t < SZ)) (kc (t ++ [(x.1, x.2.1, x.2.2)]))))
    else (if false = true then ((atI t (-(1 : Int))).bind fun y83 =>
          (atI t (-(1 : Int))).bind fun y86 =>
          (ixN (List.length t) (-(1 : Int))).bind fun n94 => kc (List.set t n94 (x.1, y83.2.1, (max y86.2.2 x.2.2)))) else ck (decide (List.length t < SZ)) (kc (t ++ [(x.1, x.2.1, x.2.2)])))) = kc (stepJ t x) := by
  rw [decide_eq_true (show t.length < SZ by omega), ck_true]
  unfold stepJ
  rcases List.eq_nil_or_concat t with e | ⟨R', l, e⟩
  · subst e; rfl
  · subst e
    rw [List.concat_eq_append, show (R' ++ [l]).getLast? = some l by simp, show (R' ++ [l]).dropLast = R' by simp, if_pos (decide_eq_true (show (0 : Int) < ((R' ++ [l]).length : Int) by rw [List.length_append, List.length_singleton]; omega)), atI_last, ixN_last]
    simp only [Option.bind_some, set_last]
    by_cases c : l.1 = x.1
    · by_cases d : x.2.1 ≤ l.2.2 + 1
      · rw [if_pos (decide_eq_true c), if_pos (decide_eq_true d), if_pos ⟨c, d⟩]
      · rw [if_pos (decide_eq_true c), if_neg (by simpa using d), if_neg (fun z => d z.2)]
    · rw [if_neg (show ¬ (decide (l.1 = x.1) = true) from fun z => c (of_decide_eq_true z)), if_neg (show ¬ (false = true) by decide), if_neg (show ¬ (l.1 = x.1 ∧ x.2.1 ≤ l.2.2 + 1) from fun z => c z.1)]
end Z

set_option Elab.async false
set_option linter.all false
set_option maxRecDepth 100000
namespace Z
open PySem PySem.Spec PyProof.Rows L2

/-! ### an own list read as data -/
theorem RelAll.asD {α : Type} {E : Enc α} {K : Fg} {F H : Hp} : ∀ {fps : List Addr} {vs : List V} {xs : List α}, RelAll ((it E).rel K F H) fps vs xs → RelAll ((it eD).rel K F H) fps vs (xs.map E.enc)
  | _, _, _, .nil => .nil
  | _, _, _, .cons h r => .cons h (RelAll.asD r)
section
variable {X : Cx} {R I Ω : Type} {SR : Stor R} {envR : I → Env} {kr : R → I → Option Ω} {bk ct : Lp Ω} {env : Env} {sts : List Stmt} {J : Type} {envJ : J → Env}
theorem lb_asD {f : (J → Option Ω) → Option Ω} {w : Option V} {α : Type} {E : Enc α} {xs : List α} (i : Nat) (he : env[i]? = some (.st w (List α) (ls (it E)) xs))
    (hr : LB X SR envR kr bk ct (env.set i (.st w (List PyData) (ls (it eD)) (xs.map E.enc))) sts envJ f) : LB X SR envR kr bk ct env sts envJ f :=
  fun C F H σs es σ kn ω D hK hl h hk qn qb qc qr => by
    obtain ⟨v, fp, e1, r, nd, ow, fin⟩ := h.mut (i := es.length + i) (by rw [at_app _ rfl]; exact he)
    obtain ⟨p, vs, fps, rfl, hp, ra, rfl⟩ := r
    have h2 := fin (List PyData) (ls (it eD)) (xs.map E.enc) H (p :: fps) (fun _ _ _ => rfl) (fun _ m => m) ⟨p, vs, fps, rfl, hp, ra.asD, rfl⟩ nd fun a m => ⟨(ow a m).2.2, .inl m⟩
    rw [List.set_append_right _ _ (Nat.le_add_right _ _), Nat.add_sub_cancel_left] at h2
    exact hr C F H σs es σ kn ω D hK hl h2 hk qn qb qc qr
end
/-! ### xs[::-1], order of tuples of ints -/
theorem RepAll.rev {K : Fg} {F : Hp} : ∀ {vs : List V} {ds : List PyData}, RepAll K F vs ds → RepAll K F vs.reverse ds.reverse
  | _, _, .nil => .nil
  | _, _, .cons h r => by
    rw [List.reverse_cons, List.reverse_cons]
    exact (RepAll.rev r).app (.cons h .nil)
section
variable {X : Cx} {Ω : Type} {env : Env} {pos p2 p3 p4 : Pos} {a b : Expr} {P P1 P2 τ α : Type} {S : Stor τ} {E : Enc α} {e' : P → Env} {g : τ → List α} {f : (τ → P → Option Ω) → Option Ω}
theorem lx_rev {k : Nat} (hv : LVw S (it E) g) (ha : LX X env a S e' f) : LX X env (.Subscript a (.Slice none none (some (.UnaryOp .USub (.Constant (.int 1) k p2) p3)) p4) pos) (ls (it E)) e' (fun kk => f fun x p => kk (g x).reverse p) :=
  fun C F H σs es σ k ω Q hK hl h hk q => tE.of X (pe_revL (peC X)) (lo_run (lo_of ha) (fun _ => trivial) hK hl h hk fun x p v F' H' fp hk' h' r => by
    obtain ⟨t0, vs, fps, rfl, l1, ra⟩ := hv.view h'.sF r
    have rr := ra.zero.2.rev
    rw [← List.map_reverse] at rr
    exact ⟨t0, vs, rfl, by rw [← hK]; exact l1, fun t nt => q _ p (.ref t) F' _ hk' (h'.newOw nt ⟨t, _, [], rfl, upd_same, rr.zero, rfl⟩)⟩)
end
def le3 (x y : Int × Int × Int) : Bool := if x.1 = y.1 then (if x.2.1 = y.2.1 then (if x.2.2 = y.2.2 then true else decide (x.2.2 ≤ y.2.2)) else decide (x.2.1 ≤ y.2.1)) else decide (x.1 ≤ y.1)
section
variable {X : Cx} {Ω : Type} {env : Env} {pos : Pos} {a b : Expr} {P1 P2 : Type} {e1 : P1 → Env} {e2 : P1 → P2 → Env} {fa : (Int × Int × Int → P1 → Option Ω) → Option Ω} {fb : P1 → (Int × Int × Int → P2 → Option Ω) → Option Ω}
theorem rep_t3 {K : Fg} {F H : Hp} {v : V} {x : Int × Int × Int} (s : Same F H) (h : Rep K F v ((eT3 eI eI eI).enc x)) : ∃ p, v = .ref p ∧ SqT K H p ([x.1, x.2.1, x.2.2].map V.int) := by
  obtain ⟨p, vs, rfl, h1, h2⟩ := Rep.tup_inv (ds := [.int x.1, .int x.2.1, .int x.2.2]) h
  have h3 : RepAll K F vs ([x.1, x.2.1, x.2.2].map eI.enc) := h2
  rw [h3.ints] at h1
  exact ⟨p, rfl, same_sqT s h1⟩
theorem lc_le3 (hu : X.A.units + 64 < cLine) (ha : LX X env a (it (eT3 eI eI eI)) e1 fa) (hb : ∀ p1, LX X (e1 p1) b (it (eT3 eI eI eI)) (e2 p1) (fb p1)) :
    LC X env .LtE a b (fun p : P1 × P2 => e2 p.1 p.2) (fun k => fa fun x p1 => fb p1 fun y p2 => k (le3 x y) (p1, p2)) :=
  lc_cmp (op_leT (by omega)) (lo_of ha) (fun p1 => lo_of (hb p1)) (fun _ _ => trivial) (fun _ _ => trivial) fun K F H fp fq v u x y Q hK s r1 r2 q => by
    subst hK
    obtain ⟨p, rfl, h1⟩ := rep_t3 s r1.2
    obtain ⟨p', rfl, h2⟩ := rep_t3 s r2.2
    refine ⟨p, p', _, _, rfl, rfl, h1, h2, ?_⟩
    have e : le3 x y = Ob.lexAt (fun j => decide ([x.1, x.2.1, x.2.2].getD j 0 = [y.1, y.2.1, y.2.2].getD j 0)) (fun j => decide ([x.1, x.2.1, x.2.2].getD j 0 ≤ [y.1, y.2.1, y.2.2].getD j 0)) (decide ([x.1, x.2.1, x.2.2].length ≤ [y.1, y.2.1, y.2.2].length)) 0 (min [x.1, x.2.1, x.2.2].length [y.1, y.2.1, y.2.2].length) := by
      show _ = Ob.lexAt _ _ _ 0 3
      rw [Ob.lexAt_succ, Ob.lexAt_succ, Ob.lexAt_succ, Ob.lexAt_zero]
      unfold le3
      simp
    rw [← e]; exact q
end
end Z

set_option Elab.async false
set_option linter.all false
set_option maxRecDepth 100000
namespace Z
open PySem PySem.Spec PyProof.Rows L2

/-! ### what data are, read back -/
structure Dec {τ : Type} (E : Enc τ) (g : PyData → Option τ) : Prop where
  ok : ∀ d x, g d = some x → E.enc x = d
  rt : ∀ x, g (E.enc x) = some x
def deI : PyData → Option Int | .int i => some i | _ => none
def deB : PyData → Option Bool | .bool i => some i | _ => none
def deS : PyData → Option Str | .str i => some i | _ => none
def deN : PyData → Option Unit | .none => some () | _ => none
def deD : PyData → Option PyData := some
def deAll {τ : Type} (g : PyData → Option τ) : List PyData → Option (List τ)
  | [] => some []
  | d :: ds => (g d).bind fun x => (deAll g ds).map fun xs => x :: xs
def deL {τ : Type} (g : PyData → Option τ) : PyData → Option (List τ) | .list ds => deAll g ds | _ => none
def deV {τ : Type} (g : PyData → Option τ) : PyData → Option (List τ) | .tuple ds => deAll g ds | _ => none
def deT2 {α β : Type} (a : PyData → Option α) (b : PyData → Option β) : PyData → Option (α × β)
  | .tuple [x, y] => (a x).bind fun u => (b y).map fun v => (u, v)
  | _ => none
def deT3 {α β γ : Type} (a : PyData → Option α) (b : PyData → Option β) (c : PyData → Option γ) : PyData → Option (α × β × γ)
  | .tuple [x, y, z] => (a x).bind fun u => (b y).bind fun v => (c z).map fun w => (u, v, w)
  | _ => none
def deT4 {α β γ δ : Type} (a : PyData → Option α) (b : PyData → Option β) (c : PyData → Option γ) (d : PyData → Option δ) : PyData → Option (α × β × γ × δ)
  | .tuple [x, y, z, t] => (a x).bind fun u => (b y).bind fun v => (c z).bind fun w => (d t).map fun s => (u, v, w, s)
  | _ => none
def deO {τ : Type} (g : PyData → Option τ) : PyData → Option (Option τ) | .none => some none | d => (g d).map some
section
variable {τ α β γ δ : Type} {E : Enc τ} {g : PyData → Option τ} {A : Enc α} {B : Enc β} {G : Enc γ} {D : Enc δ} {a : PyData → Option α} {b : PyData → Option β} {c : PyData → Option γ} {d : PyData → Option δ}
theorem dcI : Dec eI deI := ⟨fun d x h => by cases d <;> simp [deI] at h; subst h; rfl, fun _ => rfl⟩
theorem dcB : Dec eB deB := ⟨fun d x h => by cases d <;> simp [deB] at h; subst h; rfl, fun _ => rfl⟩
theorem dcS : Dec eS deS := ⟨fun d x h => by cases d <;> simp [deS] at h; subst h; rfl, fun _ => rfl⟩
theorem dcN : Dec eN deN := ⟨fun d x h => by cases d <;> simp [deN] at h; rfl, fun _ => rfl⟩
theorem dcD : Dec eD deD := ⟨fun d x h => by simp [deD] at h; subst h; rfl, fun _ => rfl⟩
theorem deAll_ok (h : Dec E g) : ∀ (ds : List PyData) (xs : List τ), deAll g ds = some xs → xs.map E.enc = ds
  | [], xs, e => by simp [deAll] at e; subst e; rfl
  | d :: ds, xs, e => by
    unfold deAll at e
    cases e1 : g d with
    | none => rw [e1] at e; cases e
    | some x =>
      rw [e1, Option.bind_some] at e
      cases e2 : deAll g ds with
      | none => rw [e2] at e; cases e
      | some ys =>
        rw [e2] at e
        cases e
        rw [List.map_cons, h.ok d x e1, deAll_ok h ds ys e2]
theorem deAll_rt (h : Dec E g) : ∀ xs : List τ, deAll g (xs.map E.enc) = some xs
  | [] => rfl
  | x :: xs => by rw [List.map_cons, deAll, h.rt, Option.bind_some, deAll_rt h xs]; rfl
theorem dcL (h : Dec E g) : Dec (eL E) (deL g) := ⟨fun d x e => by
  cases d <;> simp only [deL] at e <;> first | cases e | skip
  exact congrArg PyData.list (deAll_ok h _ _ e), fun x => deAll_rt h x⟩
theorem dcV (h : Dec E g) : Dec (eV E) (deV g) := ⟨fun d x e => by
  cases d <;> simp only [deV] at e <;> first | cases e | skip
  exact congrArg PyData.tuple (deAll_ok h _ _ e), fun x => deAll_rt h x⟩
theorem bind_eq' {α β : Type} {o : Option α} {f : α → Option β} {y : β} (h : o.bind f = some y) : ∃ x, o = some x ∧ f x = some y := bind_some h
theorem map_eq' {α β : Type} {o : Option α} {f : α → β} {y : β} (h : o.map f = some y) : ∃ x, o = some x ∧ f x = y := by
  cases o with
  | none => cases h
  | some x => exact ⟨x, rfl, Option.some.inj h⟩
theorem dcT2 (ha : Dec A a) (hb : Dec B b) : Dec (eT2 A B) (deT2 a b) := ⟨fun d x e => by
  unfold deT2 at e
  split at e
  · obtain ⟨u, e1, e⟩ := bind_some e
    obtain ⟨v, e2, e⟩ := map_eq' e
    subst e
    show PyData.tuple [A.enc u, B.enc v] = _
    rw [ha.ok _ _ e1, hb.ok _ _ e2]
  · exact absurd e (by simp), fun x => by
  show (a (A.enc x.1)).bind _ = _
  rw [ha.rt, Option.bind_some, hb.rt]; rfl⟩
theorem dcT3 (ha : Dec A a) (hb : Dec B b) (hc : Dec G c) : Dec (eT3 A B G) (deT3 a b c) := ⟨fun d x e => by
  unfold deT3 at e
  split at e
  · obtain ⟨u, e1, e⟩ := bind_some e
    obtain ⟨v, e2, e⟩ := bind_some e
    obtain ⟨w, e3, e⟩ := map_eq' e
    subst e
    show PyData.tuple [A.enc u, B.enc v, G.enc w] = _
    rw [ha.ok _ _ e1, hb.ok _ _ e2, hc.ok _ _ e3]
  · exact absurd e (by simp), fun x => by
  show (a (A.enc x.1)).bind _ = _
  rw [ha.rt, Option.bind_some, hb.rt, Option.bind_some, hc.rt]; rfl⟩
theorem dcT4 (ha : Dec A a) (hb : Dec B b) (hc : Dec G c) (hd : Dec D d) : Dec (eT4 A B G D) (deT4 a b c d) := ⟨fun d x e => by
  unfold deT4 at e
  split at e
  · obtain ⟨u, e1, e⟩ := bind_some e
    obtain ⟨v, e2, e⟩ := bind_some e
    obtain ⟨w, e3, e⟩ := bind_some e
    obtain ⟨z, e4, e⟩ := map_eq' e
    subst e
    show PyData.tuple [A.enc u, B.enc v, G.enc w, D.enc z] = _
    rw [ha.ok _ _ e1, hb.ok _ _ e2, hc.ok _ _ e3, hd.ok _ _ e4]
  · exact absurd e (by simp), fun x => by
  show (a (A.enc x.1)).bind _ = _
  rw [ha.rt, Option.bind_some, hb.rt, Option.bind_some, hc.rt, Option.bind_some, hd.rt]; rfl⟩
theorem dcO {hn : ∀ x, E.enc x ≠ .none} (h : Dec E g) : Dec (eO E hn) (deO g) := ⟨fun d x e => by
  unfold deO at e
  split at e
  · cases e; rfl
  · obtain ⟨y, e1, e⟩ := map_eq' e
    subst e
    exact h.ok _ _ e1, fun x => by
  cases x with
  | none => rfl
  | some x =>
    show deO g (E.enc x) = _
    unfold deO
    split
    · rename_i e; exact absurd e (hn x)
    · rw [h.rt]; rfl⟩
end
/-- a part of data -/
def partD (d : PyData) (n : Int) : Option PyData := match d with
  | .tuple ds => atI ds n
  | .list ds => atI ds n
  | _ => none

section
variable {X : Cx} {Ω : Type} {env : Env} {nm : Str} {pos np : Pos} {a b c e : Expr} {P P1 P2 P3 : Type} {τ τ1 τ2 α β : Type} {S : Stor τ} {S1 : Stor τ1} {S2 : Stor τ2} {E : Enc τ} {E1 : Enc τ1} {E2 : Enc τ2} {G : Env → Prop} {e' : P → Env} {e1 : P1 → Env} {e2 : P1 → P2 → Env} {e3 : P1 → P2 → P3 → Env} {f : (τ → P → Option Ω) → Option Ω}
theorem lx_dec {τ' : Type} {E' : Enc τ'} {g : PyData → Option τ'} (dc : Dec E' g) {f : (PyData → P → Option Ω) → Option Ω} (h : LX X env e (it eD) e' f) : LX X env e (it E') e' (fun (k : τ' → P → Option Ω) => f fun a p => (g a).bind fun b => k b p) :=
  lx_cast h g fun d b hb => dc.ok d b hb
/-- d[n] of data -/
theorem lx_ixD {fa : (PyData → P1 → Option Ω) → Option Ω} {fb : P1 → (Int → P2 → Option Ω) → Option Ω} (ha : LX X env a (it eD) e1 fa) (hb : ∀ p1, LX X (e1 p1) b (it eI) (e2 p1) (fb p1)) (hp : PlainIx b := by exact fun _ _ => rfl) :
    LX X env (.Subscript a b pos) (it eD) (fun p : P1 × P2 => e2 p.1 p.2) (fun k => fa fun x p1 => fb p1 fun i p2 => (partD x i).bind fun y => k y (p1, p2)) :=
  fun C F H σs es σ k ω Q hK hl h hk q => tE.of X (pe_ix ix_seq (peC X) (peC X) hp) (op2_run (lo_of ha) (fun p1 => lo_of (hb p1)) (fun _ _ => trivial) (fun _ _ => trivial) hK hl h hk
    fun x p1 i p2 v u F' H' fp fq hk' h' r1 r2 => by
      obtain ⟨y, hy, hk2⟩ := bind_some hk'
      clear hk'
      obtain ⟨_, r2⟩ := r2
      obtain ⟨_, r1⟩ := r1
      cases r2
      have r1' : Rep C.K F' v x := r1
      unfold partD at hy
      split at hy
      · obtain ⟨p, vs, rfl, h1, h2⟩ := r1'.tup_inv
        obtain ⟨w, hw, rw'⟩ := h2.atD hy
        exact .inr (.inl ⟨p, vs, i, w, rfl, rfl, by rw [← hK]; exact same_sqT h'.sF h1, hw, q y (p1, p2) w F' H' hk2 (h'.pushSh rw')⟩)
      · obtain ⟨p, vs, rfl, h1, h2⟩ := r1'.lst_inv
        obtain ⟨w, hw, rw'⟩ := h2.atD hy
        exact .inl ⟨p, vs, i, w, rfl, rfl, by rw [← hK]; exact SqL.of (h'.sF _ _ h1), hw, q y (p1, p2) w F' H' hk2 (h'.pushSh rw')⟩
      · cases hy)
/-- is a list not empty -/
theorem lt_tru {g : τ → List α} {Sa : Stor α} (hv : LVw S Sa g) (ha : LO X G env a S e' f) (hG : ∀ p, G (e' p)) (he : ∀ whole, isTrue a X.env whole = (do let v ← whole; standAt a.pos; holding [v] (truthy v)) := by intro _; rfl) :
    LT X env a e' (fun k => f fun x p => k (!(g x).isEmpty) p) :=
  fun C F H σs es σ k ω Q hK hl h hk q => tT.of X (pt_truth (peC X) he) (lo_run ha hG hK hl h hk fun x p v F' H' fp hk' h' rr => by
    obtain ⟨t, vs, fps, rfl, h1, h2⟩ := hv.view h'.sF rr
    refine ⟨!(g x).isEmpty, .inl ⟨vs, by rw [← hK]; exact h1, ?_⟩, q _ p F' H' hk' h'⟩
    have := h2.length
    cases vs <;> cases hgx : g x <;> rw [hgx] at this <;> simp_all)
/-- a tuple of a kind: never empty -/
theorem lt_truI {f : (Int → P → Option Ω) → Option Ω} (ha : LX X env a (it eI) e' f) (he : ∀ whole, isTrue a X.env whole = (do let v ← whole; standAt a.pos; holding [v] (truthy v)) := by intro _; rfl) :
    LT X env a e' (fun k => f fun x p => k (x != 0) p) :=
  fun C F H σs es σ k ω Q hK hl h hk q => tT.of X (pt_truth (peC X) he) (lo_run (lo_of ha) (fun _ => trivial) hK hl h hk fun x p v F' H' fp hk' h' rr => by
    obtain ⟨_, rr⟩ := rr
    cases rr
    exact ⟨x != 0, rfl, q _ p F' H' hk' h'⟩)
end
end Z

set_option Elab.async false
set_option linter.all false
set_option maxRecDepth 100000
namespace Z
open PySem PySem.Spec PyProof.Rows L2

/-! ### set(xs) of ints, sorted -/
section
variable {P : Program} {w : World} {A : Around} {E : Value → Shared → Prop} {s : Shared}
def inSet (val : Nat → Int) (i : Nat) (z : Int) : Bool := ((List.range i).map val).any fun y => y == z
theorem inSet_step (val : Nat → Int) (i : Nat) (z : Int) : inSet val (i + 1) z = (inSet val i z || decide (z = val i)) := by
  unfold inSet
  rw [List.range_succ, List.map_append, List.any_append]
  simp only [List.map_cons, List.map_nil, List.any_cons, List.any_nil, Bool.or_false]
  congr 1
  by_cases h : val i = z
  · rw [beq_iff_eq.2 h, decide_eq_true h.symm]
  · rw [beq_eq_false_iff_ne.2 h, decide_eq_false fun q => h q.symm]
theorem setR_loop {I : Addr} {fp wr : List Addr} {Γ : Array GenState → Array GenState → Prop} {n : Nat} {Pv : Nat → Value → Prop} {St : Nat → Shared → Prop} {R : Result → Shared → Prop} (W : WalksS P w A.in1 I fp wr Γ n Pv St) (d : Addr) (hd : d ∉ fp)
    (val : Nat → Int) (hval : ∀ i v, Pv i v → ∃ t, v = .int (val i) t) (hb : n + 1 < scanBound) : ∀ (k i : Nat) (s : Shared), n - i = k → i ≤ n → St i s → (∃ c, SetR w s.heap d (inSet val i) c ∧ c ≤ i) →
    (∀ s' c, Moved (d :: wr) Γ s s' → SetR w s'.heap d (inSet val n) c → c ≤ n → R (.ok (.ret .none)) s') → codeAny (model P w) A (.builtin "set.update.loop" ⟨[.ref d, .ref I], []⟩) R s := by
  have hdw : d ∉ wr := fun h => hd (W.sub _ h)
  have up : ∀ b ∈ wr, b ∈ d :: wr := fun b m => List.mem_cons_of_mem _ m
  intro k
  induction k with
  | zero =>
    rintro i s hk hi hst ⟨c, hc, hci⟩ hR
    obtain rfl : i = n := by omega
    refine codeAny_builtin PyProof.Rows.F.entry_set_update_loop ?_; rw [Around.under_plainId PyProof.Rows.F.plain_set_update_loop _]
    show wpAny _ A.in1 (pyNext (.ref I) >>= _) _ _ s; refine wpAny_bind (W.done s _ _ hst fun s' hm => ?_)
    show wpAny _ A.in1 (ret Value.none) _ _ s'; exact wpAny_pure (hR s' c (hm.mono up) (hc.at fun o e => hm.heap d o hdw e) hci)
  | succ k ih =>
    rintro i s hk hi hst ⟨c, hc, hci⟩ hR
    have hlt : i < n := by omega
    refine codeAny_builtin PyProof.Rows.F.entry_set_update_loop ?_; rw [Around.under_plainId PyProof.Rows.F.plain_set_update_loop _]
    show wpAny _ A.in1 (pyNext (.ref I) >>= _) _ _ s; refine wpAny_bind (W.item i s _ _ hlt hst fun v s' hP hst' hm => ?_)
    obtain ⟨t, rfl⟩ := hval i v hP
    have hc' : SetR w s'.heap d (inSet val i) c := hc.at fun o e => hm.heap d o hdw e
    show wpAny _ A.in1 (holding [Value.int (val i) t] (setAdd d (.int (val i) t)) >>= _) _ _ s'; refine wpAny_bind (wpAny_holding ?_)
    unfold setAdd; refine wpAny_holding (wpAny_bind ((intKind P w).pyHash (k := val i) (intKind_is P w _ _) ?_))
    refine setR_add_hashed (s := { s' with toks := s'.toks + 1 }) hc' (by omega) fun h' sb r => ?_
    have r' : SetR w h' d (inSet val (i + 1)) (if inSet val i (val i) = true then c else c + 1) := r.congr fun z => inSet_step val i z
    refine wpAny_pure ⟨plainId_quiet PyProof.Rows.F.plain_set_update_loop _, ih (i + 1) _ (by omega) hlt (W.frame _ s' _ _ hst' (Nat.le_succ _) fun b m o e => ?_) ⟨_, r', by split <;> omega⟩ fun s2 c2 hm2 h2 l2 => hR s2 c2 (Moved.trans W.gtrans ((hm.mono up).then_heap (Nat.le_succ _) fun b o m e => ?_) hm2) h2 l2⟩
    · rw [sb.2 b (fun q : b = d => hd (q ▸ m))]; exact e
    · rw [sb.2 b (fun q : b = d => m (q ▸ List.mem_cons_self))]; exact e
abbrev newSet (w : World) : Obj := { cls := .type "set", dict := none, data := .set #[] 0 (.fresh 0 0 (!w.params.followText "set-order")) }
set_option maxHeartbeats 3200000 in
theorem setR_list {l : Addr} {items : Array Value} {ns : List Int} {Q : Value → Shared → Prop} (hh : A.handled = none) (hl : s.heap.IsList l items) (hi : IntsAre items.toList ns) (hb : items.size + 1 < scanBound)
    (h : ∀ (h' : Heap) (tk c : Nat), SetR w h' s.heap.objs.size (inSet (fun i => ns.getD i 0) items.size) c → c ≤ items.size → (∀ b o, s.heap.get? b = some o → h'.get? b = some o) → Q (.ref s.heap.objs.size) { s with heap := h', toks := tk }) :
    wpAny (model P w) A (call (.type "set") [.ref l]) Q E s := by
  obtain ⟨c0, tl, hmro⟩ := PySem.F.called_set.mro
  have hmade := PySem.F.called_set.made; have hsub := PySem.F.called_set.sub
  refine wpAny_call (codeAny_of_tree ?_); show wpAny _ _ (callAny (.type "set") _) _ _ _
  refine wpAny_pure ⟨Code.quiet_builtin _ (by decide +kernel), codeAny_builtin PySem.F.entry_type_call ?_⟩; rw [Around.under_plain (weight_type_call_type "set" [.ref l] []) rfl]
  have h1 := PySem.F.called_set.notType; have h2 := PySem.F.called_set.canCreate; have hct := PySem.F.typeCall_set_1 (.ref l)
  repeat (any_goals (first | assumption | wp_step))
  refine codeAny_mono (code_set_led1 (.ref l) (E := E) (Q₁ := fun obj s₁ => obj = .ref s.heap.objs.size ∧ s₁ = { s with heap := s.heap.push (newSet w) }) ⟨rfl, rfl⟩) fun r s₁ hr => ?_
  cases r with
  | error e => exact hr
  | ok fl =>
    cases fl with
    | ret obj =>
      obtain ⟨rfl, rfl⟩ := hr
      have hS : (s.heap.push (newSet w)).get? s.heap.objs.size = some (newSet w) := Heap.get?_push_size _ rfl
      have hT : Shared.TypeIs { s with heap := s.heap.push (newSet w) } (.ref s.heap.objs.size) "set" := ⟨_, hS, rfl⟩
      have hli := PySem.F.called_set.init.lookup; have hbi := PySem.F.called_set.init.bind (.ref s.heap.objs.size)
      repeat (any_goals (first | assumption | wp_step))
      refine codeAny_mono (codeAny_call_builtin (R := wants (fun r s₂ => r = .none ∧ ∃ h' tk c, s₂ = { s with heap := h', toks := tk } ∧ SetR w h' s.heap.objs.size (inSet (fun i => ns.getD i 0) items.size) c ∧ c ≤ items.size ∧ (∀ b o, s.heap.get? b = some o → h'.get? b = some o)) E) PySem.F.called_set.init.plain PySem.F.entry_set_init (check_set_init_1 hT ?_)) fun r₂ s₂ hr₂ => ?_
      · obtain ⟨ol, hol, hcl, nl, hdl⟩ := hl
        obtain ⟨ocls, odict, odata, oslots⟩ := ol
        simp only at hcl hdl; subst hcl; subst hdl
        have hol' : (s.heap.push (newSet w)).get? l = some { cls := .type "list", dict := odict, data := .seq items nl, slots := oslots } := Heap.get?_push_of_some _ hol
        have hsls := PySem.F.sub_list_set; have hslf := PySem.F.sub_list_frozenset
        have hne : (Value.type "list" == Value.type "dict") = false := by decide
        have hl1 : (s.heap.push (newSet w)).IsList l items := ⟨_, hol', rfl, nl, rfl⟩
        unfold Builtin.«set.__init__» noKeywords Builtin.Frozenset.updateFrom; generalize hPI : pyIter = PI
        wp_walk; subst hPI
        refine wpAny_pyIter_list hl1 (wpAny_bind (wpAny_runValue ?_))
        have hlS : l < s.heap.objs.size := Heap.lt_size hol
        have hz1 : (s.heap.push (newSet w)).objs.size = s.heap.objs.size + 1 := Heap.size_push ..
        have hneI : l ≠ (s.heap.push (newSet w)).objs.size := by rw [hz1]; exact Nat.ne_of_lt (Nat.lt_succ_of_lt hlS)
        have hSf : s.heap.objs.size ∉ [(s.heap.push (newSet w)).objs.size, l] := by
          rw [hz1]; intro m; rcases List.mem_cons.1 m with q | m; exact absurd q (Nat.ne_of_lt (Nat.lt_succ_self _)); exact absurd (List.mem_singleton.1 m) (Nat.ne_of_gt hlS)
        have hval : ∀ (i : Nat) (v : Value), items[i]? = some v → ∃ t, v = .int ((fun i => ns.getD i 0) i) t := fun i v hv => PyProof.Rows.IntsAre.int_at hi i v (by rw [Array.getElem?_toList]; exact hv)
        refine setR_loop ((Walks.list (show A.in1.in1.in1.handled = none by simp [hh]) _ l hneI items).toS) s.heap.objs.size hSf (fun i => ns.getD i 0) hval hb (items.size - 0) 0 _ (by omega) (Nat.zero_le _) ⟨⟨_, Heap.get?_push_size _ rfl, rfl, rfl⟩, (hl1.push _)⟩ ⟨0, ?hS0, Nat.le_refl _⟩ ?hR
        case hS0 =>
          exact ((setR_fresh (h := s.heap) w).at fun o e => Heap.get?_push_of_some _ e).congr fun _ => rfl
        case hR =>
          rintro ⟨h', g2, d', tk', os'⟩ c hm hS' hc
          obtain rfl : g2 = s.gens := hm.gens
          obtain rfl : d' = s.drawn := hm.drawn
          obtain rfl : os' = s.os := hm.os
          show wpAny _ _ _ _ _ _; refine wpAny_pure ?_; show wpAny _ _ (ret Value.none) _ _ _
          refine wpAny_pure ⟨rfl, h', tk', c, rfl, hS', hc, fun b o e => ?_⟩
          have hb0 := Heap.lt_size e
          exact hm.heap b o (by rw [hz1]; intro m; rcases List.mem_cons.1 m with q | m; exact absurd q (Nat.ne_of_lt hb0); exact absurd (List.mem_singleton.1 m) (Nat.ne_of_lt (Nat.lt_succ_of_lt hb0))) (Heap.get?_push_of_some _ (Heap.get?_push_of_some _ e))
      · cases r₂ with
        | error e => exact hr₂
        | ok fl₂ =>
          cases fl₂ with
          | ret r =>
            obtain ⟨rfl, h', tk, c, rfl, hS', hc, hk'⟩ := hr₂
            repeat (any_goals (first | assumption | wp_step))
            exact h _ _ _ hS' hc hk'
          | _ => exact hr₂.elim
    | _ => exact hr.elim
end
section
variable {X : Cx}
def rSetI (K : Fg) (w : World) : List V → Hp → VK → Prop := fun vs H Q => ∃ (l : Addr) (ns : List Int), vs = [V.ref l] ∧ SqL K H l (ns.map V.int) ∧ ns.length < 64 ∧
  ∀ p S c, H p = none → (∀ z : Int, S z = true ↔ z ∈ ns) → c < 64 → Q (.ref p) (upd H p (SetO w p S c))
theorem cr_setI (hc : X.calm = true) : CallR X (.type "set") (rSetI X.K X.w) := by
  intro pins s σ H vs us Q I r h
  obtain ⟨l, ns, rfl, hs, h64, q⟩ := h
  rw [Vals.ref1 r]
  obtain ⟨uts, rv, pl, hz⟩ := I.list hs
  have hi := intsAre_of rv
  have hlen : uts.length = ns.length := by have := rv.length; simpa using this.symm
  refine setR_list (items := uts.toArray) (ns := ns) (I.ok.hd hc) pl.isList (by simpa using hi) (by simp [hlen]; unfold scanBound; omega) fun h' tk c R hc hk => ?_
  have hn : H s.heap.objs.size = none := I.hok.fresh (Nat.le_refl _)
  refine ⟨.ref _, upd H s.heap.objs.size (SetO X.w s.heap.objs.size (inSet (fun i => ns.getD i 0) uts.toArray.size) c), I.laid (t' := tk) hk (Nat.le_refl _) (setO_new R), rfl, q _ _ c hn (fun z => ?_) (by simp [hlen] at hc; omega)⟩
  unfold inSet
  rw [List.any_eq_true]
  simp only [List.mem_map, List.mem_range, beq_iff_eq, List.size_toArray, hlen]
  constructor
  · rintro ⟨y, ⟨i, hi, rfl⟩, rfl⟩
    rw [List.getD_eq_getElem?_getD, List.getElem?_eq_getElem hi]
    exact List.getElem_mem hi
  · intro m
    obtain ⟨i, hi, e⟩ := List.mem_iff_getElem.1 m
    exact ⟨z, ⟨i, hi, by rw [List.getD_eq_getElem?_getD, List.getElem?_eq_getElem hi, e]; rfl⟩, rfl⟩
/-- the members, ascending, each once -/
def usort : List Int → List Int
  | [] => []
  | x :: xs => let r := usort xs; if x ∈ r then r else r.filter (· < x) ++ x :: r.filter (x < ·)
theorem usort_mem {xs : List Int} {z : Int} : z ∈ usort xs ↔ z ∈ xs := by
  induction xs generalizing z with
  | nil => simp [usort]
  | cons x xs ih =>
    simp only [usort]
    split
    · rename_i h
      rw [ih] at h
      rw [ih, List.mem_cons]
      exact ⟨.inr, fun q => q.elim (fun e => e ▸ h) id⟩
    · rename_i h
      simp only [List.mem_append, List.mem_filter, List.mem_cons, decide_eq_true_eq, ih] at h ⊢
      constructor
      · rintro (q | q | q)
        · exact .inr q.1
        · exact .inl q
        · exact .inr q.1
      · rintro (q | q)
        · exact .inr (.inl q)
        · by_cases c : z < x
          · exact .inl ⟨q, c⟩
          · by_cases d : z = x
            · exact .inr (.inl d)
            · exact .inr (.inr ⟨q, by omega⟩)
theorem usort_pw : ∀ (xs : List Int), (usort xs).Pairwise (· < ·)
  | [] => List.Pairwise.nil
  | x :: xs => by
    have ih := usort_pw xs
    simp only [usort]
    split
    · exact ih
    · refine List.pairwise_append.2 ⟨ih.filter _, List.pairwise_cons.2 ⟨fun y m => by simpa using (List.mem_filter.1 m).2, ih.filter _⟩, fun y m z n => ?_⟩
      have hy : y < x := by simpa using (List.mem_filter.1 m).2
      rcases List.mem_cons.1 n with rfl | n
      · exact hy
      · have : x < z := by simpa using (List.mem_filter.1 n).2
        omega
theorem asc_uniq : ∀ {xs ys : List Int}, xs.Pairwise (· < ·) → ys.Pairwise (· < ·) → (∀ z, z ∈ xs ↔ z ∈ ys) → xs = ys
  | [], [], _, _, _ => rfl
  | [], y :: ys, _, _, h => by have := (h y).2 (List.mem_cons_self ..); cases this
  | x :: xs, [], _, _, h => by have := (h x).1 (List.mem_cons_self ..); cases this
  | x :: xs, y :: ys, p, q, h => by
    obtain ⟨p1, p2⟩ := List.pairwise_cons.1 p
    obtain ⟨q1, q2⟩ := List.pairwise_cons.1 q
    have e : x = y := by
      rcases List.mem_cons.1 ((h x).1 (List.mem_cons_self ..)) with e | m
      · exact e
      · rcases List.mem_cons.1 ((h y).2 (List.mem_cons_self ..)) with e | n
        · exact e.symm
        · have := p1 y n; have := q1 x m; omega
    subst e
    rw [asc_uniq p2 q2 fun z => ?_]
    constructor
    · intro m
      rcases List.mem_cons.1 ((h z).1 (List.mem_cons_of_mem _ m)) with e | n
      · have := p1 z m; omega
      · exact n
    · intro m
      rcases List.mem_cons.1 ((h z).2 (List.mem_cons_of_mem _ m)) with e | n
      · have := q1 z m; omega
      · exact n
theorem usort_is {xs ys : List Int} (p : ys.Pairwise (· < ·)) (h : ∀ z, z ∈ ys ↔ z ∈ xs) : ys = usort xs := asc_uniq p (usort_pw xs) fun z => by rw [usort_mem, h]
end
section
variable {X : Cx} {Ω : Type} {env : Env} {pos pos2 np np2 : Pos} {a : Expr} {P : Type} {τ : Type} {S : Stor τ} {G : Env → Prop} {e' : P → Env} {f : (τ → P → Option Ω) → Option Ω} {g : τ → List Int}
/-- sorted(set(xs)) of ints, fewer than 64 -/
theorem lx_usort (hc : X.calm = true) (hv : LVw S (it eI) g) (hm : X.mg "sorted" = none) (hm2 : X.mg "set" = none) (ha : LO X G env a S e' f) (hG : ∀ p, G (e' p)) (hg : Gl X "sorted" := by rfl) (hg2 : Gl X "set" := by rfl)
    (he : starEach (a :: []) X.env = (false, eval a X.env) :: starEach [] X.env := by rfl) (he2 : starEach (Expr.Call (.Name "set" np2) [a] [] pos2 :: []) X.env = (false, eval (Expr.Call (.Name "set" np2) [a] [] pos2) X.env) :: starEach [] X.env := by rfl)
    (hpl : (backTo pos (starEach [] X.env)).any (·.1) = false := by rfl) (hpl2 : (backTo pos2 (starEach [] X.env)).any (·.1) = false := by rfl) :
    LX X env (.Call (.Name "sorted" np) [.Call (.Name "set" np2) [a] [] pos2] [] pos) (ls (it eI)) e' (fun k => f fun x p => ck (decide ((g x).length < 64)) (k (usort (g x)) p)) :=
  fun C F H σs es σ k ω Q hK hl h hk q => tE.of X (pe_callB (cr_sortedSet hc) hg hm boot_sorted (pa_cons (pe_callTy (cr_setI hc) hg2 hm2 PyProof.Rows.boot_set (pa_cons (peC X) pa_nil he) (by decide) (by decide) he hpl2) pa_nil he2) (by decide) (by decide) he2 hpl)
    (lo_run ha hG hK hl h hk fun x p v F' H' fp hk' h' rr => by
      obtain ⟨hc, hk2⟩ := ck_some hk'
      clear hk'
      obtain ⟨t, vs, fps, rfl, h1, h2⟩ := hv.view h'.sF rr
      have := h2.zero.2.ints
      subst this
      refine ⟨t, g x, rfl, by rw [← hK]; exact h1, of_decide_eq_true hc, fun d S c nd hS hc => ?_⟩
      refine ⟨d, S, c, rfl, upd_same, hc, fun ns b pw hm hl nb => ?_⟩
      have e := usort_is (xs := g x) pw fun z => by rw [hm, hS]
      subst e
      have h3 := h'.newH (u := SetO X.w d S c) nd
      exact q _ p _ F' _ hk2 (h3.newOw nb ⟨b, _, [], rfl, upd_same, (RepAll.ofInts (usort (g x))).zero, rfl⟩))
end
end Z


namespace My
open PySem PySem.Spec PyProof.Rows L2 Z
def topS (i : Nat) : Stmt := PySem.Challenge.pw_cutwright_k30_whole_regions.main.body.getD i (.Pass ⟨0, 0, 0, 0⟩)
abbrev s_turned : Stmt := topS 1
abbrev s_placed_cell : Stmt := topS 2
abbrev s_region_of : Stmt := topS 4
abbrev s_cells_in : Stmt := topS 5
abbrev s_joint : Stmt := topS 6
abbrev s_united : Stmt := topS 7
abbrev s_common : Stmt := topS 8
abbrev s_less : Stmt := topS 9
abbrev s_moved : Stmt := topS 10
abbrev s_put : Stmt := topS 11
abbrev s_area : Stmt := topS 12
abbrev s_box : Stmt := topS 13
abbrev s_spans_fault : Stmt := topS 14
abbrev s__law_draw : Stmt := topS 16
abbrev s__law_pick : Stmt := topS 17
abbrev s__law_blob : Stmt := topS 18
abbrev s__law_region : Stmt := topS 19
abbrev s__law_put : Stmt := topS 20
abbrev s__law_fault : Stmt := topS 21
abbrev s_law : Stmt := topS 22
structure Fa (K : Fg) (mg : Str → Option Value) where
  f_turned : Addr
  fd_turned : FuncData
  F_turned : Fun K "turned" "turned" s_turned f_turned fd_turned
  g_turned : mg "turned" = some (.ref f_turned)
  b_turned : Binds K fd_turned ["x", "y", "quarters"] []
  f_placed_cell : Addr
  fd_placed_cell : FuncData
  F_placed_cell : Fun K "placed_cell" "placed_cell" s_placed_cell f_placed_cell fd_placed_cell
  g_placed_cell : mg "placed_cell" = some (.ref f_placed_cell)
  b_placed_cell : Binds K fd_placed_cell ["place", "x", "y"] []
  f_region_of : Addr
  fd_region_of : FuncData
  F_region_of : Fun K "region_of" "region_of" s_region_of f_region_of fd_region_of
  g_region_of : mg "region_of" = some (.ref f_region_of)
  b_region_of : Binds K fd_region_of ["cells"] []
  f_cells_in : Addr
  fd_cells_in : FuncData
  F_cells_in : Fun K "cells_in" "cells_in" s_cells_in f_cells_in fd_cells_in
  g_cells_in : mg "cells_in" = some (.ref f_cells_in)
  b_cells_in : Binds K fd_cells_in ["region"] []
  f_joint : Addr
  fd_joint : FuncData
  F_joint : Fun K "joint" "joint" s_joint f_joint fd_joint
  g_joint : mg "joint" = some (.ref f_joint)
  b_joint : Binds K fd_joint ["spans"] []
  f_united : Addr
  fd_united : FuncData
  F_united : Fun K "united" "united" s_united f_united fd_united
  g_united : mg "united" = some (.ref f_united)
  b_united : Binds K fd_united ["one", "other"] []
  f_common : Addr
  fd_common : FuncData
  F_common : Fun K "common" "common" s_common f_common fd_common
  g_common : mg "common" = some (.ref f_common)
  b_common : Binds K fd_common ["one", "other"] []
  f_less : Addr
  fd_less : FuncData
  F_less : Fun K "less" "less" s_less f_less fd_less
  g_less : mg "less" = some (.ref f_less)
  b_less : Binds K fd_less ["one", "other"] []
  f_moved : Addr
  fd_moved : FuncData
  F_moved : Fun K "moved" "moved" s_moved f_moved fd_moved
  g_moved : mg "moved" = some (.ref f_moved)
  b_moved : Binds K fd_moved ["region", "x", "y"] []
  f_put : Addr
  fd_put : FuncData
  F_put : Fun K "put" "put" s_put f_put fd_put
  g_put : mg "put" = some (.ref f_put)
  b_put : Binds K fd_put ["region", "place"] []
  f_area : Addr
  fd_area : FuncData
  F_area : Fun K "area" "area" s_area f_area fd_area
  g_area : mg "area" = some (.ref f_area)
  b_area : Binds K fd_area ["region"] []
  f_box : Addr
  fd_box : FuncData
  F_box : Fun K "box" "box" s_box f_box fd_box
  g_box : mg "box" = some (.ref f_box)
  b_box : Binds K fd_box ["region"] []
  f_spans_fault : Addr
  fd_spans_fault : FuncData
  F_spans_fault : Fun K "spans_fault" "spans_fault" s_spans_fault f_spans_fault fd_spans_fault
  g_spans_fault : mg "spans_fault" = some (.ref f_spans_fault)
  b_spans_fault : Binds K fd_spans_fault ["region"] []
  f__law_draw : Addr
  fd__law_draw : FuncData
  F__law_draw : Fun K "_law_draw" "_law_draw" s__law_draw f__law_draw fd__law_draw
  g__law_draw : mg "_law_draw" = some (.ref f__law_draw)
  b__law_draw : Binds K fd__law_draw ["state", "script", "size"] []
  f__law_pick : Addr
  fd__law_pick : FuncData
  F__law_pick : Fun K "_law_pick" "_law_pick" s__law_pick f__law_pick fd__law_pick
  g__law_pick : mg "_law_pick" = some (.ref f__law_pick)
  b__law_pick : Binds K fd__law_pick ["state", "script", "items"] []
  f__law_blob : Addr
  fd__law_blob : FuncData
  F__law_blob : Fun K "_law_blob" "_law_blob" s__law_blob f__law_blob fd__law_blob
  g__law_blob : mg "_law_blob" = some (.ref f__law_blob)
  b__law_blob : Binds K fd__law_blob ["state", "script", "size"] []
  f__law_region : Addr
  fd__law_region : FuncData
  F__law_region : Fun K "_law_region" "_law_region" s__law_region f__law_region fd__law_region
  g__law_region : mg "_law_region" = some (.ref f__law_region)
  b__law_region : Binds K fd__law_region ["cells"] []
  f__law_put : Addr
  fd__law_put : FuncData
  F__law_put : Fun K "_law_put" "_law_put" s__law_put f__law_put fd__law_put
  g__law_put : mg "_law_put" = some (.ref f__law_put)
  b__law_put : Binds K fd__law_put ["place", "cell"] []
  f__law_fault : Addr
  fd__law_fault : FuncData
  F__law_fault : Fun K "_law_fault" "_law_fault" s__law_fault f__law_fault fd__law_fault
  g__law_fault : mg "_law_fault" = some (.ref f__law_fault)
  b__law_fault : Binds K fd__law_fault ["region"] []
  f_law : Addr
  fd_law : FuncData
  F_law : Fun K "law" "law" s_law f_law fd_law
  g_law : mg "law" = some (.ref f_law)
  b_law : Binds K fd_law ["script"] []
  z_enumerate : mg "enumerate" = none
  z_int : mg "int" = none
  z_len : mg "len" = none
  z_list : mg "list" = none
  z_max : mg "max" = none
  z_min : mg "min" = none
  z_range : mg "range" = none
  z_repr : mg "repr" = none
  z_sorted : mg "sorted" = none
  z_sum : mg "sum" = none

def m_turned (a_x : Int) (a_y : Int) (a_quarters : Int) : Option (Int × Int) :=
  ck (rgOk 0 a_quarters) (forO (rangeL 0 a_quarters) (a_x, a_y) (fun x3 (t2 : (Int × Int)) kc4 => (
    let x10 : Int := ((-(1 : Int)) - t2.2)
    let y11 : Int := t2.1
    kc4 (x10, y11)))
    fun t12 : (Int × Int) => (
    some (t12.1, t12.2)))
def m_placed_cell (a_place : (Int × Int × Int)) (a_x : Int) (a_y : Int) : Option (Int × Int) :=
  let x16 : (Int × Int × Int) := a_place
  let k21 := fun j20 : Int => (
    ck (modOk (4 : Int)) ((m_turned j20 a_y (Int.fmod x16.2.2 (4 : Int))).bind fun r29 =>
    let x30 : (Int × Int) := r29
    some ((x30.1 + x16.1), (x30.2 + x16.2.1))))
  if (decide ((4 : Int) ≤ x16.2.2)) = true then (
    let v_x_23 : Int := ((-(1 : Int)) - a_x)
    k21 v_x_23)
  else (
    k21 a_x)
def m_region_of (a_cells : (List (Int × Int))) : Option (List (Int × Int × Int)) :=
  let v_found_36 : (List (Int × Int × Int)) := ([] : (List (Int × Int × Int)))
  compO a_cells () (fun x40 (t39 : Unit) kc47 => (
    kc47 (some (x40.2, x40.1)) ())) [] fun (ys45 : List (Int × Int)) (t46 : Unit) => (
    (some (sortB (lt2 ltI ltI) ys45)).bind fun y48 =>
    forO y48 v_found_36 (fun x51 (t50 : (List (Int × Int × Int))) kc52 => (
      let k89 := fun z : Bool => (let k68 := fun j67 : (List (Int × Int × Int)) => (
        kc52 j67)
      if z = true then (
        (atI t50 (-(1 : Int))).bind fun y71 =>
        (atI t50 (-(1 : Int))).bind fun y74 =>
        (ixN (List.length t50) (-(1 : Int))).bind fun n82 =>
        let z81 : (List (Int × Int × Int)) := List.set t50 n82 (x51.1, y71.2.1, (max y74.2.2 x51.2))
        k68 z81)
      else (
        ck (decide (List.length t50 < SZ)) (
        let w88 : (List (Int × Int × Int)) := t50 ++ [(x51.1, x51.2, x51.2)]
        k68 w88)))
      if (decide ((0 : Int) < (List.length t50 : Int))) = true then ((atI t50 (-(1 : Int))).bind fun y57 =>
      let k90 := fun z : Bool => (k89 z)
      if (decide (y57.1 = x51.1)) = true then ((atI t50 (-(1 : Int))).bind fun y63 =>
      k90 (decide (x51.2 ≤ (y63.2.2 + (1 : Int))))) else k90 false) else k89 false))
      fun t91 : (List (Int × Int × Int)) => (
      some t91))
def m_cells_in (a_region : (List (Int × Int × Int))) : Option (List (Int × Int)) :=
  let v_found_93 : (List (Int × Int)) := ([] : (List (Int × Int)))
  forO a_region v_found_93 (fun x97 (t96 : (List (Int × Int))) kc98 => (
    ck (rgOk x97.2.1 (x97.2.2 + (1 : Int))) (compO (rangeL x97.2.1 (x97.2.2 + (1 : Int))) () (fun x106 (t105 : Unit) kc113 => (
      kc113 (some (x106, x97.1)) ())) [] fun (ys111 : List (Int × Int)) (t112 : Unit) => (
      let z115 : (List (Int × Int)) := ys111
      ck (decide (List.length t96 + List.length z115 ≤ SZ)) (
      let w114 : (List (Int × Int)) := t96 ++ z115
      kc98 w114)))))
    fun t116 : (List (Int × Int)) => (
    (some (sortB (lt2 ltI ltI) t116)).bind fun y117 =>
    some y117)
def m_joint (a_spans : (List (Int × Int × Int))) : Option (List (Int × Int × Int)) :=
  let v_found_119 : (List (Int × Int × Int)) := ([] : (List (Int × Int × Int)))
  (some (sortB (lt3 ltI ltI ltI) a_spans)).bind fun y121 =>
  forO y121 v_found_119 (fun x124 (t123 : (List (Int × Int × Int))) kc125 => (
    let k162 := fun z : Bool => (let k141 := fun j140 : (List (Int × Int × Int)) => (
      kc125 j140)
    if z = true then (
      (atI t123 (-(1 : Int))).bind fun y144 =>
      (atI t123 (-(1 : Int))).bind fun y147 =>
      (ixN (List.length t123) (-(1 : Int))).bind fun n155 =>
      let z154 : (List (Int × Int × Int)) := List.set t123 n155 (x124.1, y144.2.1, (max y147.2.2 x124.2.2))
      k141 z154)
    else (
      ck (decide (List.length t123 < SZ)) (
      let w161 : (List (Int × Int × Int)) := t123 ++ [(x124.1, x124.2.1, x124.2.2)]
      k141 w161)))
    if (decide ((0 : Int) < (List.length t123 : Int))) = true then ((atI t123 (-(1 : Int))).bind fun y130 =>
    let k163 := fun z : Bool => (k162 z)
    if (decide (y130.1 = x124.1)) = true then ((atI t123 (-(1 : Int))).bind fun y136 =>
    k163 (decide (x124.2.1 ≤ (y136.2.2 + (1 : Int))))) else k163 false) else k162 false))
    fun t164 : (List (Int × Int × Int)) => (
    some t164)
def m_united (a_one : (List (Int × Int × Int))) (a_other : (List (Int × Int × Int))) : Option (List (Int × Int × Int)) :=
  let z167 : (List (Int × Int × Int)) := a_one
  let z168 : (List (Int × Int × Int)) := a_other
  ck (decide (List.length z167 + List.length z168 ≤ SZ)) ((m_joint (z167 ++ z168)).bind fun r170 =>
  some r170)
def m_common (a_one : (List (Int × Int × Int))) (a_other : (List (Int × Int × Int))) : Option (List (Int × Int × Int)) :=
  let v_found_171 : (List (Int × Int × Int)) := ([] : (List (Int × Int × Int)))
  forO a_one v_found_171 (fun x175 (t174 : (List (Int × Int × Int))) kc176 => (
    forO a_other t174 (fun x180 (t179 : (List (Int × Int × Int))) kc181 => (
      let k199 := fun z : Bool => (let k190 := fun j189 : (List (Int × Int × Int)) => (
        kc181 j189)
      if z = true then (
        ck (decide (List.length t179 < SZ)) (
        let w198 : (List (Int × Int × Int)) := t179 ++ [(x175.1, (max x175.2.1 x180.2.1), (min x175.2.2 x180.2.2))]
        k190 w198))
      else (
        k190 t179))
      if (decide (x180.1 = x175.1)) = true then (let k200 := fun z : Bool => (k199 z)
      if (decide (x180.2.1 ≤ x175.2.2)) = true then (k200 (decide (x175.2.1 ≤ x180.2.2))) else k200 false) else k199 false))
      fun t201 : (List (Int × Int × Int)) => (
      kc176 t201)))
    fun t203 : (List (Int × Int × Int)) => (
    (m_joint t203).bind fun r205 =>
    some r205)
def m_less (a_one : (List (Int × Int × Int))) (a_other : (List (Int × Int × Int))) : Option (List (Int × Int × Int)) :=
  let v_found_207 : (List (Int × Int × Int)) := ([] : (List (Int × Int × Int)))
  forO a_one v_found_207 (fun x211 (t210 : (List (Int × Int × Int))) kc212 => (
    let v_start_214 : Int := x211.2.1
    forO a_other (t210, v_start_214) (fun x218 (t217 : ((List (Int × Int × Int)) × Int)) kc219 => (
      let k244 := fun z : Bool => (let k228 := fun j227 : ((List (Int × Int × Int)) × Int) => (
        kc219 (j227.1, j227.2))
      if z = true then (
        let k232 := fun j231 : (List (Int × Int × Int)) => (
          let v_start_242 : Int := (max t217.2 (x218.2.2 + (1 : Int)))
          k228 (j231, v_start_242))
        if (decide (t217.2 < x218.2.1)) = true then (
          ck (decide (List.length t217.1 < SZ)) (
          let w239 : (List (Int × Int × Int)) := t217.1 ++ [(x211.1, t217.2, (x218.2.1 - (1 : Int)))]
          k232 w239))
        else (
          k232 t217.1))
      else (
        k228 (t217.1, t217.2)))
      if (decide (x218.1 = x211.1)) = true then (let k245 := fun z : Bool => (k244 z)
      if (decide (x218.2.1 ≤ x211.2.2)) = true then (k245 (decide (t217.2 ≤ x218.2.2))) else k245 false) else k244 false))
      fun t246 : ((List (Int × Int × Int)) × Int) => (
      let k250 := fun j249 : (List (Int × Int × Int)) => (
        kc212 j249)
      if (decide (t246.2 ≤ x211.2.2)) = true then (
        ck (decide (List.length t246.1 < SZ)) (
        let w256 : (List (Int × Int × Int)) := t246.1 ++ [(x211.1, t246.2, x211.2.2)]
        k250 w256))
      else (
        k250 t246.1))))
    fun t258 : (List (Int × Int × Int)) => (
    (m_joint t258).bind fun r260 =>
    some r260)
def m_moved (a_region : (List (Int × Int × Int))) (a_x : Int) (a_y : Int) : Option (List (Int × Int × Int)) :=
  compO a_region () (fun x264 (t263 : Unit) kc275 => (
    kc275 (some ((x264.1 + a_y), (x264.2.1 + a_x), (x264.2.2 + a_x))) ())) [] fun (ys273 : List (Int × Int × Int)) (t274 : Unit) => (
    some ys273)
def m_put (a_region : (List (Int × Int × Int))) (a_place : (Int × Int × Int)) : Option (List (Int × Int × Int)) :=
  (m_cells_in a_region).bind fun r277 =>
  compO r277 () (fun x280 (t279 : Unit) kc289 => (
    (m_placed_cell a_place x280.1 x280.2).bind fun r285 =>
    kc289 (some r285) ())) [] fun (ys287 : List (Int × Int)) (t288 : Unit) => (
    (m_region_of ys287).bind fun r291 =>
    some r291)
def m_area (a_region : (List (Int × Int × Int))) : Option Int :=
  compO a_region () (fun x294 (t293 : Unit) kc302 => (
    kc302 (some ((x294.2.2 - x294.2.1) + (1 : Int))) ())) [] fun (ys300 : List Int) (t301 : Unit) => (
    some (List.sum ys300))
def m_box (a_region : (List (Int × Int × Int))) : Option (Option (Int × Int × Int × Int)) :=
  if (decide ((List.length a_region : Int) = (0 : Int))) = true then (
    some none)
  else (
    compO a_region () (fun x307 (t306 : Unit) kc312 => (
      kc312 (some x307.2.1) ())) [] fun (ys310 : List Int) (t311 : Unit) => (
      (minI ys310).bind fun y313 =>
      let v_left_314 : Int := y313
      compO a_region () (fun x318 (t317 : Unit) kc323 => (
        kc323 (some x318.2.2) ())) [] fun (ys321 : List Int) (t322 : Unit) => (
        (maxI ys321).bind fun y324 =>
        let v_right_325 : Int := y324
        (atI a_region (0 : Int)).bind fun y329 =>
        (atI a_region (-(1 : Int))).bind fun y341 =>
        (atI a_region (0 : Int)).bind fun y344 =>
        some (some (v_left_314, y329.1, ((v_right_325 - v_left_314) + (1 : Int)), ((y341.1 - y344.1) + (1 : Int)))))))
def m_spans_fault (a_region : (List (Int × Int × Int))) : Option PyData :=
  forO (enumL a_region) () (fun x349 (t348 : Unit) kc350 => (
    let k377 := fun z378 : (Int × Int × Int) => (
      let v_ahead_361 : (Int × Int × Int) := z378
      let k374 := fun z : Bool => (if z = true then (
        some (PyData.tuple [PyData.str ("span" : Str), PyData.int x349.1]))
      else (
        kc350 ()))
      if (decide (x349.2.2.2 < x349.2.2.1)) = true then k374 true else (let k375 := fun z : Bool => (k374 z)
      if (le3 x349.2 v_ahead_361) = true then k375 true else (let k376 := fun z : Bool => (k375 z)
      if (decide (x349.2.1 = v_ahead_361.1)) = true then (k376 (decide (x349.2.2.1 ≤ (v_ahead_361.2.2 + (1 : Int))))) else k376 false)))
    if (decide ((0 : Int) < x349.1)) = true then ((atI a_region (x349.1 - (1 : Int))).bind fun y356 =>
    k377 y356) else (k377 ((x349.2.1 - (1 : Int)), (0 : Int), (0 : Int)))))
    fun t379 : Unit => (
    some PyData.none)
def m__law_draw (t0 : (List Int)) (a_script : List Int) (a_size : Int) : Option (Int × (List Int)) :=
  (atI t0 (1 : Int)).bind fun y382 =>
  let k386 := fun j385 : (List Int) => (
    (atI j385 (1 : Int)).bind fun y462 =>
    ck (modOk a_size) (let v_digit_464 : Int := (Int.fmod y462 a_size)
    (atI j385 (1 : Int)).bind fun y467 =>
    ck (divOk a_size) ((ixN (List.length j385) (1 : Int)).bind fun n474 =>
    let z473 : (List Int) := List.set j385 n474 (Int.fdiv y467 a_size)
    some (v_digit_464, z473))))
  if (decide (y382 = (0 : Int))) = true then (
    let v_cell_387 : Int := (0 : Int)
    let k392 := fun j391 : Int => (
      let k403 := fun j402 : Int => (
        (atI t0 (0 : Int)).bind fun y414 =>
        ck (mulOk y414 (7919 : Int)) (ck (mulOk ((j402 + (y414 * (7919 : Int))) + (1 : Int)) (48271 : Int)) (ck (modOk (2147483647 : Int)) (let v_mixed_419 : Int := (Int.fmod (((j402 + (y414 * (7919 : Int))) + (1 : Int)) * (48271 : Int)) (2147483647 : Int))
        ck (mulOk v_mixed_419 (69621 : Int)) ((atI t0 (0 : Int)).bind fun y425 =>
        ck (mulOk y425 (104729 : Int)) (ck (modOk (4294967291 : Int)) ((ixN (List.length t0) (1 : Int)).bind fun n460 =>
        let z432 : (List Int) := List.set t0 n460 (Int.fmod ((v_mixed_419 * (69621 : Int)) + (y425 * (104729 : Int))) (4294967291 : Int))
        ck (powOk (10 : Int) (18 : Int)) (let k459 := fun z : Bool => (let k441 := fun j440 : (List Int) => (
          (atI j440 (0 : Int)).bind fun y451 =>
          (ixN (List.length j440) (0 : Int)).bind fun n458 =>
          let z457 : (List Int) := List.set j440 n458 (y451 + (1 : Int))
          k386 z457)
        if z = true then (
          (ixN (List.length z432) (1 : Int)).bind fun n447 =>
          let z446 : (List Int) := List.set z432 n447 j402
          k441 z446)
        else (
          k441 z432))
        if (decide (((10 : Int) ^ Int.toNat (18 : Int)) ≤ j402)) = true then ((atI z432 (0 : Int)).bind fun y437 =>
        k459 (decide (y437 < (List.length a_script : Int)))) else k459 false))))))))
      if (decide (j391 < (0 : Int))) = true then (
        ck (mulOk (2 : Int) j391) (let v_cell_406 : Int := ((1 : Int) - ((2 : Int) * j391))
        k403 v_cell_406))
      else (
        k403 j391))
    if (decide ((0 : Int) < (List.length a_script : Int))) = true then (
      (atI t0 (0 : Int)).bind fun y395 =>
      ck (modOk (List.length a_script : Int)) ((atI a_script (Int.fmod y395 (List.length a_script : Int))).bind fun y397 =>
      let v_cell_398 : Int := y397
      k392 v_cell_398))
    else (
      k392 v_cell_387))
  else (
    k386 t0)
def m__law_pick (t0 : (List Int)) (a_script : List Int) (a_items : (List (Int × Int × Int))) : Option ((Int × Int × Int) × (List Int)) :=
  (m__law_draw t0 a_script (List.length a_items : Int)).bind fun r478 =>
  (atI a_items r478.1).bind fun y479 =>
  some (y479, r478.2)
def m__law_blob (t0 : (List Int)) (a_script : List Int) (a_size : Int) : Option ((List (Int × Int)) × (List Int)) :=
  let v_cells_480 : (List (Int × Int)) := ([] : (List (Int × Int)))
  (m__law_draw t0 a_script (3 : Int)).bind fun r485 =>
  let v_dense_486 : Int := ((1 : Int) + r485.1)
  ck (rgOk 0 a_size) (forO (rangeL 0 a_size) (r485.2, v_cells_480) (fun x490 (t489 : ((List Int) × (List (Int × Int)))) kc491 => (
    ck (rgOk 0 a_size) (forO (rangeL 0 a_size) (t489.1, t489.2) (fun x495 (t494 : ((List Int) × (List (Int × Int)))) kc496 => (
      (m__law_draw t494.1 a_script (4 : Int)).bind fun r500 =>
      let k504 := fun j503 : ((List Int) × (List (Int × Int))) => (
        kc496 (j503.1, j503.2))
      if (decide (r500.1 < v_dense_486)) = true then (
        ck (decide (List.length t494.2 < SZ)) (
        let w509 : (List (Int × Int)) := t494.2 ++ [(x495, x490)]
        k504 (r500.2, w509)))
      else (
        k504 (r500.2, t494.2))))
      fun t510 : ((List Int) × (List (Int × Int))) => (
      kc491 (t510.1, t510.2)))))
    fun t512 : ((List Int) × (List (Int × Int))) => (
    some (t512.2, t512.1)))
def m__law_region (a_cells : (List (Int × Int))) : Option (List (Int × Int × Int)) :=
  let v_found_514 : (List (Int × Int × Int)) := ([] : (List (Int × Int × Int)))
  compO a_cells () (fun x518 (t517 : Unit) kc525 => (
    kc525 (some (x518.2, x518.1)) ())) [] fun (ys523 : List (Int × Int)) (t524 : Unit) => (
    (some (sortB (lt2 ltI ltI) ys523)).bind fun y526 =>
    forO y526 v_found_514 (fun x529 (t528 : (List (Int × Int × Int))) kc530 => (
      let k576 := fun z : Bool => (let k544 := fun j543 : (List (Int × Int × Int)) => (
        kc530 j543)
      if z = true then (
        (atI t528 (-(1 : Int))).bind fun y547 =>
        (ixN (List.length t528) (-(1 : Int))).bind fun n555 =>
        let z554 : (List (Int × Int × Int)) := List.set t528 n555 (x529.1, y547.2.1, x529.2)
        k544 z554)
      else (
        let k574 := fun z : Bool => (let k567 := fun j566 : (List (Int × Int × Int)) => (
          k544 j566)
        if z = true then (
          ck (decide (List.length t528 < SZ)) (
          let w573 : (List (Int × Int × Int)) := t528 ++ [(x529.1, x529.2, x529.2)]
          k567 w573))
        else (
          k567 t528))
        if (decide ((List.length t528 : Int) = (0 : Int))) = true then k574 true else ((atI t528 (-(1 : Int))).bind fun y559 =>
        let k575 := fun z : Bool => (k574 z)
        if (!decide (y559.1 = x529.1)) = true then k575 true else ((atI t528 (-(1 : Int))).bind fun y563 =>
        k575 (!decide (y563.2.2 = x529.2))))))
      if (decide ((0 : Int) < (List.length t528 : Int))) = true then ((atI t528 (-(1 : Int))).bind fun y535 =>
      let k577 := fun z : Bool => (k576 z)
      if (decide (y535.1 = x529.1)) = true then ((atI t528 (-(1 : Int))).bind fun y539 =>
      k577 (decide (y539.2.2 = (x529.2 - (1 : Int))))) else k577 false) else k576 false))
      fun t578 : (List (Int × Int × Int)) => (
      some t578))
def m__law_put (a_place : (Int × Int × Int)) (a_cell : (Int × Int)) : Option (Int × Int) :=
  let x580 : (Int × Int) := a_cell
  let k585 := fun j584 : Int => (
    ck (modOk (4 : Int)) (ck (rgOk 0 (Int.fmod a_place.2.2 (4 : Int))) (forO (rangeL 0 (Int.fmod a_place.2.2 (4 : Int))) (j584, x580.2) (fun x592 (t591 : (Int × Int)) kc593 => (
      let v_old_595 : Int := t591.1
      let v_x_598 : Int := ((-(1 : Int)) - t591.2)
      let v_y_600 : Int := v_old_595
      kc593 (v_x_598, v_y_600)))
      fun t602 : (Int × Int) => (
      some ((t602.1 + a_place.1), (t602.2 + a_place.2.1))))))
  if (decide ((4 : Int) ≤ a_place.2.2)) = true then (
    let v_x_587 : Int := ((-(1 : Int)) - x580.1)
    k585 v_x_587)
  else (
    k585 x580.1)
def m__law_fault (a_region : (List (Int × Int × Int))) : Option PyData :=
  ck (rgOk 0 (List.length a_region : Int)) (forO (rangeL 0 (List.length a_region : Int)) () (fun x610 (t609 : Unit) kc611 => (
    (atI a_region x610).bind fun y614 =>
    let x615 : (Int × Int × Int) := y614
    if (decide (x615.2.2 < x615.2.1)) = true then (
      some (PyData.tuple [PyData.str ("span" : Str), PyData.int x610]))
    else (
      let k624 := fun j623 : Unit => (
        kc611 ())
      if (decide ((0 : Int) < x610)) = true then (
        (atI a_region (x610 - (1 : Int))).bind fun y627 =>
        let v_ahead_628 : (Int × Int × Int) := y627
        let k642 := fun z : Bool => (if z = true then (
          some (PyData.tuple [PyData.str ("span" : Str), PyData.int x610]))
        else (
          k624 ()))
        if (le3 (x615.1, x615.2.1, x615.2.2) v_ahead_628) = true then k642 true else (let k643 := fun z : Bool => (k642 z)
        if (decide (x615.1 = v_ahead_628.1)) = true then (k643 (decide (x615.2.1 ≤ (v_ahead_628.2.2 + (1 : Int))))) else k643 false))
      else (
        k624 ()))))
    fun t644 : Unit => (
    some PyData.none))
def m_law (a_script : List Int) : Option Bool :=
  let v_state_648 : (List Int) := [(0 : Int), (0 : Int)]
  (m__law_draw v_state_648 a_script (6 : Int)).bind fun r654 =>
  (m__law_blob r654.2 a_script ((1 : Int) + r654.1)).bind fun r656 =>
  let v_one_657 : (List (Int × Int)) := r656.1
  (m__law_draw r656.2 a_script (6 : Int)).bind fun r663 =>
  (m__law_blob r663.2 a_script ((1 : Int) + r663.1)).bind fun r665 =>
  let v_other_666 : (List (Int × Int)) := r665.1
  let z670 : (List (Int × Int)) := v_one_657
  let z671 : (List (Int × Int)) := (cutL v_one_657 none (some (2 : Int)))
  ck (decide (List.length z670 + List.length z671 ≤ SZ)) ((m_region_of (z670 ++ z671)).bind fun r673 =>
  let v_left_674 : (List (Int × Int × Int)) := r673
  (m_region_of (List.reverse v_other_666)).bind fun r677 =>
  let v_right_678 : (List (Int × Int × Int)) := r677
  (m__law_region v_one_657).bind fun r682 =>
  let k948 := fun z : Bool => (if z = true then (
    some false)
  else (
    (reprO ((eL (eL (eT3 eI eI eI))).enc ([v_left_674, v_right_678]))).bind fun y695 =>
    let v_kept_696 : Str := y695
    compO v_one_657 () (fun x700 (t699 : Unit) kc706 => (
      if (inB x700 v_other_666) = true then (kc706 (some x700) ()) else kc706 none ())) [] fun (ys704 : List (Int × Int)) (t705 : Unit) => (
      let v_both_707 : (List (Int × Int)) := ys704
      (m_common v_left_674 v_right_678).bind fun r711 =>
      (m__law_region v_both_707).bind fun r714 =>
      let k947 := fun z : Bool => (if z = true then (
        some false)
      else (
        (m_less v_left_674 v_right_678).bind fun r737 =>
        compO v_one_657 () (fun x741 (t740 : Unit) kc747 => (
          if (!inB x741 v_other_666) = true then (kc747 (some x741) ()) else kc747 none ())) [] fun (ys745 : List (Int × Int)) (t746 : Unit) => (
          (m__law_region ys745).bind fun r749 =>
          let k946 := fun z : Bool => (if z = true then (
            some false)
          else (
            (m__law_draw r665.2 a_script (9 : Int)).bind fun r757 =>
            let v_x_759 : Int := (r757.1 - (4 : Int))
            (m__law_draw r757.2 a_script (9 : Int)).bind fun r763 =>
            let v_y_765 : Int := (r763.1 - (4 : Int))
            (m_moved v_left_674 v_x_759 v_y_765).bind fun r770 =>
            compO v_one_657 () (fun x774 (t773 : Unit) kc783 => (
              kc783 (some ((x774.1 + v_x_759), (x774.2 + v_y_765))) ())) [] fun (ys781 : List (Int × Int)) (t782 : Unit) => (
              (m__law_region ys781).bind fun r785 =>
              if (!decide (r770 = r785)) = true then (
                some false)
              else (
                (m__law_draw r763.2 a_script (8 : Int)).bind fun r791 =>
                let v_place_793 : (Int × Int × Int) := (v_x_759, v_y_765, r791.1)
                (m_put v_left_674 v_place_793).bind fun r797 =>
                compO v_one_657 () (fun x801 (t800 : Unit) kc809 => (
                  (m__law_put v_place_793 x801).bind fun r805 =>
                  kc809 (some r805) ())) [] fun (ys807 : List (Int × Int)) (t808 : Unit) => (
                  (m__law_region ys807).bind fun r811 =>
                  if (!decide (r797 = r811)) = true then (
                    some false)
                  else (
                    let v_due_813 : (Option (Int × Int × Int × Int)) := none
                    let k818 := fun j817 : (Option (Int × Int × Int × Int)) => (
                      (m_box v_left_674).bind fun r862 =>
                      (reprO ((eO (eT4 eI eI eI eI) (fun _ h => by cases h)).enc r862)).bind fun y863 =>
                      (reprO ((eO (eT4 eI eI eI eI) (fun _ h => by cases h)).enc j817)).bind fun y865 =>
                      let k945 := fun z : Bool => (if z = true then (
                        some false)
                      else (
                        let v_bent_870 : (List (Int × Int × Int)) := v_left_674
                        let k875 := fun j874 : ((List Int) × (List (Int × Int × Int))) => (
                          (m_spans_fault j874.2).bind fun r924 =>
                          (reprO (eD.enc r924)).bind fun y925 =>
                          (m__law_fault j874.2).bind fun r928 =>
                          (reprO (eD.enc r928)).bind fun y929 =>
                          if (!decide (y925 = y929)) = true then (
                            some false)
                          else (
                            (m_united v_left_674 v_right_678).bind fun r933 =>
                            let v_found_934 : (List (Int × Int × Int)) := r933
                            ck (decide (List.length (List.map (eT3 eI eI eI).enc v_found_934) < SZ)) (
                            let w940 : (List PyData) := (List.map (eT3 eI eI eI).enc v_found_934) ++ [PyData.int (7 : Int)]
                            (reprO ((eL (eL (eT3 eI eI eI))).enc ([v_left_674, v_right_678]))).bind fun y943 =>
                            some (decide (y943 = v_kept_696)))))
                        if (decide ((0 : Int) < (List.length v_bent_870 : Int))) = true then (
                          (m__law_draw r791.2 a_script (List.length v_bent_870 : Int)).bind fun r878 =>
                          let v_at_879 : Int := r878.1
                          (atI v_bent_870 v_at_879).bind fun y882 =>
                          let v_span_883 : (Int × Int × Int) := y882
                          (m__law_pick r878.2 a_script ([(v_span_883.1, (v_span_883.2.1 - (1 : Int)), v_span_883.2.2), (v_span_883.1, v_span_883.2.1, (v_span_883.2.2 + (1 : Int))), (v_span_883.1, (v_span_883.2.2 + (1 : Int)), v_span_883.2.1), ((v_span_883.1 + (1 : Int)), v_span_883.2.1, v_span_883.2.2)])).bind fun r907 =>
                          (ixN (List.length v_bent_870) v_at_879).bind fun n922 =>
                          let z912 : (List (Int × Int × Int)) := List.set v_bent_870 n922 r907.1
                          (m__law_draw r907.2 a_script (2 : Int)).bind fun r917 =>
                          let z918 : (List (Int × Int × Int)) := z912
                          let z919 : (List (Int × Int × Int)) := (cutL z912 none (some r917.1))
                          ck (decide (List.length z918 + List.length z919 ≤ SZ)) (let v_bent_920 : (List (Int × Int × Int)) := (z918 ++ z919)
                          k875 (r917.2, v_bent_920)))
                        else (
                          k875 (r791.2, v_bent_870))))
                      if (!decide (y863 = y865)) = true then k945 true else ((m_spans_fault v_left_674).bind fun r868 =>
                      k945 (!isNone (eD.enc r868))))
                    if (!decide (v_one_657 = ([] : (List (Int × Int))))) = true then (
                      compO v_one_657 () (fun x821 (t820 : Unit) kc826 => (
                        kc826 (some x821.1) ())) [] fun (ys824 : List Int) (t825 : Unit) => (
                        let v_xs_827 : (List Int) := ys824
                        compO v_one_657 () (fun x831 (t830 : Unit) kc836 => (
                          kc836 (some x831.2) ())) [] fun (ys834 : List Int) (t835 : Unit) => (
                          let v_ys_837 : (List Int) := ys834
                          (minI v_xs_827).bind fun y839 =>
                          (minI v_ys_837).bind fun y841 =>
                          (maxI v_xs_827).bind fun y846 =>
                          (minI v_xs_827).bind fun y848 =>
                          (maxI v_ys_837).bind fun y854 =>
                          (minI v_ys_837).bind fun y856 =>
                          let v_due_859 : (Option (Int × Int × Int × Int)) := (some (y839, y841, ((y846 - y848) + (1 : Int)), ((y854 - y856) + (1 : Int))))
                          k818 v_due_859)))
                    else (
                      k818 v_due_813)))))))
          if (!decide (r737 = r749)) = true then k946 true else ((m_area v_left_674).bind fun r752 =>
          k946 (!decide (r752 = (List.length v_one_657 : Int)))))))
      if (!decide (r711 = r714)) = true then k947 true else ((m_united v_left_674 v_right_678).bind fun r718 =>
      compO v_other_666 () (fun x723 (t722 : Unit) kc729 => (
        if (!inB x723 v_one_657) = true then (kc729 (some x723) ()) else kc729 none ())) [] fun (ys727 : List (Int × Int)) (t728 : Unit) => (
        let z730 : (List (Int × Int)) := v_one_657
        let z731 : (List (Int × Int)) := ys727
        ck (decide (List.length z730 + List.length z731 ≤ SZ)) ((m__law_region (z730 ++ z731)).bind fun r733 =>
        k947 (!decide (r718 = r733))))))))
  if (!decide (v_left_674 = r682)) = true then k948 true else ((m__law_region v_other_666).bind fun r686 =>
  let k949 := fun z : Bool => (k948 z)
  if (!decide (v_right_678 = r686)) = true then k949 true else ((m_cells_in v_left_674).bind fun r689 =>
  (some (sortB (lt2 ltI ltI) v_one_657)).bind fun y691 =>
  k949 (!decide (r689 = y691)))))
section
variable {P : Program} {w : World} {K : Fg} {mg : Str → Option Value} {base : Heap}
abbrev n_turned : List Str := ["x", "y", "quarters", "turn"]
theorem sc_turned : FnScope n_turned ["x", "y", "quarters"] (defScope s_turned) := ⟨rfl, rfl, rfl, by decide +kernel, rfl, by decide +kernel, by decide +kernel⟩
abbrev sp_turned (K : Fg) : Sp := spP K (fun a : Int × Int × Int × Unit => [.st none Int (it eI) a.1, .st none Int (it eI) a.2.1, .st none Int (it eI) a.2.2.1]) (it (eT2 eI eI)) (fun a => m_turned a.1 a.2.1 a.2.2.1)
set_option maxHeartbeats 0 in
theorem ok_turned (fa : Fa K mg) : FnOk P w K mg base CX0 1 fa.f_turned fa.fd_turned ["x", "y", "quarters"] (sp_turned K) := by
  refine fnP fa.F_turned sc_turned 1 rfl (fun _ => rfl) fun cdv A' outer s H E hr => ?_
  have nd := sc_turned.nd
  have hu := hr.units
  have hu5 : (A'.deeper (envOfC "turned" (defScope s_turned) s.heap.objs.size fa.f_turned cdv)).units + 65 < cLine := by have := hr.un; omega
  rintro ⟨a_x, a_y, a_quarters, _⟩
  exact lb_use (env := [.st none Int (it eI) a_x, .st none Int (it eI) a_y, .st none Int (it eI) a_quarters, .un])
    (lb_for (envT := (fun t2 : (Int × Int) => [.st none Int (it eI) t2.1, .st none Int (it eI) t2.2, .st none Int (it eI) a_quarters, .un])) PassesOwn.never rfl (li_range1 (by rfl) fa.z_range (lx_var 2 cp_it rfl)) (fun p1 => (a_x, a_y)) (fun p1 => (Sub.refl _)) (fun t2 => (lg_name 3 nd)) (fun x3 t2 kc4 kb5 => (lb_par 0 1 nd rfl (la_cons (lx_sub (lx_neg lx_int) (fun p6 => (lx_var 1 cp_it rfl))) (fun p7 => (la_cons (lx_var 0 cp_it rfl) (fun p8 => la_nil)))) (fun x10 y11 p9 => (lb_end (x10, y11) (.keep (.keep (.keep (.drop Sub.nil)))))))) (fun t12 => (lb_ret (lx_tup (la_cons (lx_var 0 cp_it rfl) (fun p13 => (la_cons (lx_var 1 cp_it rfl) (fun p14 => la_nil)))) (eT2 eI eI) (fun a : Int × Int × Unit => (a.1, a.2.1)) (fun a => [eI.enc a.1, eI.enc a.2.1]) (fun _ => (.cons (.cons .nil))) (fun _ => rfl)) (fun _ => ()) (fun p => (.drop (.drop (.drop (.keep Sub.nil))))))))
    (by first | (unfold m_turned; dsimp only [id]; done) | (unfold m_turned; dsimp only [id]; rfl) | rfl)
abbrev n_placed_cell : List Str := ["place", "x", "y", "left", "low", "way"]
theorem sc_placed_cell : FnScope n_placed_cell ["place", "x", "y"] (defScope s_placed_cell) := ⟨rfl, rfl, rfl, by decide +kernel, rfl, by decide +kernel, by decide +kernel⟩
abbrev sp_placed_cell (K : Fg) : Sp := spP K (fun a : (Int × Int × Int) × Int × Int × Unit => [.st none (Int × Int × Int) (it (eT3 eI eI eI)) a.1, .st none Int (it eI) a.2.1, .st none Int (it eI) a.2.2.1]) (it (eT2 eI eI)) (fun a => m_placed_cell a.1 a.2.1 a.2.2.1)
set_option maxHeartbeats 0 in
theorem ok_placed_cell (fa : Fa K mg) : FnOk P w K mg base CX0 2 fa.f_placed_cell fa.fd_placed_cell ["place", "x", "y"] (sp_placed_cell K) := by
  refine fnP fa.F_placed_cell sc_placed_cell 3 rfl (fun _ => rfl) fun cdv A' outer s H E hr => ?_
  have nd := sc_placed_cell.nd
  have hu := hr.units
  have hu5 : (A'.deeper (envOfC "placed_cell" (defScope s_placed_cell) s.heap.objs.size fa.f_placed_cell cdv)).units + 65 < cLine := by have := hr.un; omega
  rintro ⟨a_place, a_x, a_y, _⟩
  exact lb_use (env := [.st none (Int × Int × Int) (it (eT3 eI eI eI)) a_place, .st none Int (it eI) a_x, .st none Int (it eI) a_y, .un, .un, .un])
    (lb_asg (lx_var 0 cp_it rfl) (fun p17 => (lg_tup (E := (eT3 eI eI eI)) (lgs_cons (lg_name 3 nd) (fun _ => (lgs_cons (lg_name 4 nd) (fun _ => (lgs_cons (lg_name 5 nd) (fun _ => lgs_nil)))))) (fun x => (x.1, x.2.1, x.2.2, ())) (fun a : Int × Int × Int × Unit => [eI.enc (a.1), eI.enc (a.2.1), eI.enc (a.2.2.1)]) (fun _ => (.cons (.cons (.cons .nil)))) (fun _ => rfl) rfl (fun _ => rfl))) (fun x16 p17 => (lb_if (env1 := (fun j20 : Int => [.st none (Int × Int × Int) (it (eT3 eI eI eI)) a_place, .st none Int (it eI) j20, .st none Int (it eI) a_y, .st none Int (it eI) x16.1, .st none Int (it eI) x16.2.1, .st none Int (it eI) x16.2.2])) (lt_cmp (lc_ge (lx_var 5 cp_it rfl) (fun p18 => lx_int)) (nomark _)) (fun p19 => (lb_set 1 nd (lx_sub (lx_neg lx_int) (fun p22 => (lx_var 1 cp_it rfl))) (fun v_x_23 p24 => (lb_end v_x_23 (Sub.refl _))))) (fun p19 => (lb_end a_x (Sub.refl _))) (fun j20 => (lb_asg (lx_call (ok_turned fa) (hr.mono (by decide)) fa.g_turned fa.F_turned.kp fa.b_turned (fun _ => (.cons cp_it (.cons cp_it (.cons cp_it .nil)))) (la_cons (lx_var 1 cp_it rfl) (fun p25 => (la_cons (lx_var 2 cp_it rfl) (fun p26 => (la_cons (lx_mod (lx_var 5 cp_it rfl) (fun p27 => lx_int)) (fun p28 => la_nil))))))) (fun p31 => (lg_tup (E := (eT2 eI eI)) (lgs_cons (lg_name 1 nd) (fun _ => (lgs_cons (lg_name 2 nd) (fun _ => lgs_nil)))) (fun x => (x.1, x.2, ())) (fun a : Int × Int × Unit => [eI.enc (a.1), eI.enc (a.2.1)]) (fun _ => (.cons (.cons .nil))) (fun _ => rfl) rfl (fun _ => rfl))) (fun x30 p31 => (lb_ret (lx_tup (la_cons (lx_add (lx_var 1 cp_it rfl) (fun p32 => (lx_var 3 cp_it rfl))) (fun p33 => (la_cons (lx_add (lx_var 2 cp_it rfl) (fun p34 => (lx_var 4 cp_it rfl))) (fun p35 => la_nil)))) (eT2 eI eI) (fun a : Int × Int × Unit => (a.1, a.2.1)) (fun a => [eI.enc a.1, eI.enc a.2.1]) (fun _ => (.cons (.cons .nil))) (fun _ => rfl)) (fun _ => ()) (fun p => (.drop (.drop (.drop (.drop (.drop (.drop Sub.nil))))))))))))))
    (by first | (unfold m_placed_cell; dsimp only [id]; done) | (unfold m_placed_cell; dsimp only [id]; rfl) | rfl)
abbrev n_region_of : List Str := ["cells", "found", "y", "x", "cell"]
theorem sc_region_of : FnScope n_region_of ["cells"] (defScope s_region_of) := ⟨rfl, rfl, rfl, by decide +kernel, rfl, by decide +kernel, by decide +kernel⟩
abbrev sp_region_of (K : Fg) : Sp := spP K (fun a : (List (Int × Int)) × Unit => [.st none (List (Int × Int)) (it (eL (eT2 eI eI))) a.1]) (it (eL (eT3 eI eI eI))) (fun a => m_region_of a.1)
set_option maxHeartbeats 0 in
theorem ok_region_of (fa : Fa K mg) : FnOk P w K mg base CX0 1 fa.f_region_of fa.fd_region_of ["cells"] (sp_region_of K) := by
  refine fnP fa.F_region_of sc_region_of 4 rfl (fun _ => rfl) fun cdv A' outer s H E hr => ?_
  have nd := sc_region_of.nd
  have hu := hr.units
  have hu5 : (A'.deeper (envOfC "region_of" (defScope s_region_of) s.heap.objs.size fa.f_region_of cdv)).units + 65 < cLine := by have := hr.un; omega
  rintro ⟨a_cells, _⟩
  exact lb_use (env := [.st none (List (Int × Int)) (it (eL (eT2 eI eI))) a_cells, .un, .un, .un, .un])
    (lb_set 1 nd (lx_list la_nil (eT3 eI eI eI) (fun _ => []) (fun _ => .nil)) (fun v_found_36 p37 => (lb_for (envT := (fun t50 : (List (Int × Int × Int)) => [.st none (List (Int × Int)) (it (eL (eT2 eI eI))) a_cells, .st none (List (Int × Int × Int)) (ls (it (eT3 eI eI eI))) t50, .un, .un, .un])) PassesOwn.never rfl (li_list lm_ow.w (lx_sorted hu (odT2 evI odI odI) soT2 (dtT2 dtI dtI) lm_ow.w fa.z_sorted (lo_of (lx_lc (envT := (fun t39 : Unit => [.st none (List (Int × Int)) (it (eL (eT2 eI eI))) a_cells, .st none (List (Int × Int × Int)) (ls (it (eT3 eI eI eI))) v_found_36, .un, .un, .un])) rfl nd (blkOk_by (N := n_region_of) (sc := defScope s_region_of) (own := [("cell", 4)]) (by decide +kernel)) (li_list lm_sh.w (lx_var 0 cp_it rfl)) (fun p38 => ()) (fun p38 => (Sub.refl _)) (by intro t i s hm he; simp at hm; subst hm; (have e := Option.some.inj he; exact e.symm)) (fun _ _ _ _ _ t39 => (lg_name 4 nd)) (fun _ _ _ _ _ t39 x40 => ltl_nil) (fun _ _ _ _ _ t39 x40 p41 => (lx_tup (la_cons (lx_part part2_1 (lx_var 4 cp_it rfl)) (fun p42 => (la_cons (lx_part part2_0 (lx_var 4 cp_it rfl)) (fun p43 => la_nil)))) (eT2 eI eI) (fun a : Int × Int × Unit => (a.1, a.2.1)) (fun a => [eI.enc a.1, eI.enc a.2.1]) (fun _ => (.cons (.cons .nil))) (fun _ => rfl))) (fun t39 x40 p41 p44 => ()) (fun t39 x40 p41 p44 => by exact (.keep (.keep (.keep (.keep (.drop Sub.nil)))))) (fun t39 x40 p41 => ()) (fun t39 x40 p41 => by exact (.keep (.keep (.keep (.keep (.drop Sub.nil)))))))) (fun _ => trivial))) (fun p49 => v_found_36) (fun p49 => (Sub.refl _)) (fun t50 => (lg_tup (E := (eT2 eI eI)) (lgs_cons (lg_name 2 nd) (fun _ => (lgs_cons (lg_name 3 nd) (fun _ => lgs_nil)))) (fun x => (x.1, x.2, ())) (fun a : Int × Int × Unit => [eI.enc (a.1), eI.enc (a.2.1)]) (fun _ => (.cons (.cons .nil))) (fun _ => rfl) rfl (fun _ => rfl))) (fun x51 t50 kc52 kb53 => (lb_if (env1 := (fun j67 : (List (Int × Int × Int)) => [.st none (List (Int × Int)) (it (eL (eT2 eI eI))) a_cells, .st none (List (Int × Int × Int)) (ls (it (eT3 eI eI eI))) j67, .st none Int (it eI) x51.1, .st none Int (it eI) x51.2, .un])) (lt_w (lw_and (lt_cmp (lc_gt (lx_len lm_ow.w fa.z_len (lo_var 1 rfl) (fun _ => rfl)) (fun p54 => lx_int)) (nomark _)) (fun p55 => (lw_and (lt_cmp (lc_eqI (lx_part part3_0 (lx_ix lm_ow.w (lo_var 1 rfl) (fun p56 => (lx_neg lx_int)) (fun _ _ => rfl))) (fun p58 => (lx_var 2 cp_it rfl))) (nomark _)) (fun p59 => (lw_and1 (lt_cmp (lc_ge (lx_add (lx_part part3_2 (lx_ix lm_ow.w (lo_var 1 rfl) (fun p62 => (lx_neg lx_int)) (fun _ _ => rfl))) (fun p64 => lx_int)) (fun p65 => (lx_var 3 cp_it rfl))) (nomark _)))) (fun p59 _ => Sub.refl _))) (fun p55 _ => Sub.refl _))) (fun p66 => (lb_setix 1 (lx_tup (la_cons (lx_var 2 cp_it rfl) (fun p69 => (la_cons (lx_part part3_1 (lx_ix lm_ow.w (lo_var 1 rfl) (fun p70 => (lx_neg lx_int)) (fun _ _ => rfl))) (fun p72 => (la_cons (lx_max2 rfl fa.z_max (lx_part part3_2 (lx_ix lm_ow.w (lo_var 1 rfl) (fun p73 => (lx_neg lx_int)) (fun _ _ => rfl))) (fun p75 => (lx_var 3 cp_it rfl))) (fun p76 => la_nil)))))) (eT3 eI eI eI) (fun a : Int × Int × Int × Unit => (a.1, a.2.1, a.2.2.1)) (fun a => [eI.enc a.1, eI.enc a.2.1, eI.enc a.2.2.1]) (fun _ => (.cons (.cons (.cons .nil)))) (fun _ => rfl)) (fun _ => rfl) (fun y77 p78 => (lx_neg lx_int)) (fun _ _ _ => rfl) (fun y77 p78 j79 p80 z81 => (lb_end z81 (Sub.refl _))))) (fun p66 => (lb_app 1 rfl (lx_tup (la_cons (lx_var 2 cp_it rfl) (fun p85 => (la_cons (lx_var 3 cp_it rfl) (fun p86 => (la_cons (lx_var 3 cp_it rfl) (fun p87 => la_nil)))))) (eT3 eI eI eI) (fun a : Int × Int × Int × Unit => (a.1, a.2.1, a.2.2.1)) (fun a => [eI.enc a.1, eI.enc a.2.1, eI.enc a.2.2.1]) (fun _ => (.cons (.cons (.cons .nil)))) (fun _ => rfl)) (fun _ => rfl) (fun y84 p83 => (lb_end (t50 ++ [y84]) (Sub.refl _))))) (fun j67 => (lb_end j67 (.keep (.keep (.drop (.drop (.keep Sub.nil))))))))) (fun t91 => (lb_ret (lx_frz 1 (fz_ls fz_it) rfl) (fun _ => ()) (fun p => (.drop (.drop (.keep (.keep (.keep Sub.nil)))))))))))
    (by first | (unfold m_region_of; dsimp only [id]; done) | (unfold m_region_of; dsimp only [id]; rfl) | rfl)
abbrev n_cells_in : List Str := ["region", "found", "y", "first", "last", "x"]
theorem sc_cells_in : FnScope n_cells_in ["region"] (defScope s_cells_in) := ⟨rfl, rfl, rfl, by decide +kernel, rfl, by decide +kernel, by decide +kernel⟩
abbrev sp_cells_in (K : Fg) : Sp := spP K (fun a : (List (Int × Int × Int)) × Unit => [.st none (List (Int × Int × Int)) (it (eL (eT3 eI eI eI))) a.1]) (it (eL (eT2 eI eI))) (fun a => m_cells_in a.1)
set_option maxHeartbeats 0 in
theorem ok_cells_in (fa : Fa K mg) : FnOk P w K mg base CX0 1 fa.f_cells_in fa.fd_cells_in ["region"] (sp_cells_in K) := by
  refine fnP fa.F_cells_in sc_cells_in 5 rfl (fun _ => rfl) fun cdv A' outer s H E hr => ?_
  have nd := sc_cells_in.nd
  have hu := hr.units
  have hu5 : (A'.deeper (envOfC "cells_in" (defScope s_cells_in) s.heap.objs.size fa.f_cells_in cdv)).units + 65 < cLine := by have := hr.un; omega
  rintro ⟨a_region, _⟩
  exact lb_use (env := [.st none (List (Int × Int × Int)) (it (eL (eT3 eI eI eI))) a_region, .un, .un, .un, .un, .un])
    (lb_set 1 nd (lx_list la_nil (eT2 eI eI) (fun _ => []) (fun _ => .nil)) (fun v_found_93 p94 => (lb_for (envT := (fun t96 : (List (Int × Int)) => [.st none (List (Int × Int × Int)) (it (eL (eT3 eI eI eI))) a_region, .st none (List (Int × Int)) (ls (it (eT2 eI eI))) t96, .un, .un, .un, .un])) PassesOwn.never rfl (li_list lm_sh.w (lx_var 0 cp_it rfl)) (fun p95 => v_found_93) (fun p95 => (Sub.refl _)) (fun t96 => (lg_tup (E := (eT3 eI eI eI)) (lgs_cons (lg_name 2 nd) (fun _ => (lgs_cons (lg_name 3 nd) (fun _ => (lgs_cons (lg_name 4 nd) (fun _ => lgs_nil)))))) (fun x => (x.1, x.2.1, x.2.2, ())) (fun a : Int × Int × Int × Unit => [eI.enc (a.1), eI.enc (a.2.1), eI.enc (a.2.2.1)]) (fun _ => (.cons (.cons (.cons .nil)))) (fun _ => rfl) rfl (fun _ => rfl))) (fun x97 t96 kc98 kb99 => (lb_ext 1 rfl lm_ow (lx_lc (envT := (fun t105 : Unit => [.st none (List (Int × Int × Int)) (it (eL (eT3 eI eI eI))) a_region, .st none (List (Int × Int)) (ls (it (eT2 eI eI))) t96, .st none Int (it eI) x97.1, .st none Int (it eI) x97.2.1, .st none Int (it eI) x97.2.2, .un])) rfl nd (blkOk_by (N := n_cells_in) (sc := defScope s_cells_in) (own := [("x", 5)]) (by decide +kernel)) (li_range2 (by rfl) fa.z_range (lx_var 3 cp_it rfl) (fun p102 => (lx_add (lx_var 4 cp_it rfl) (fun p103 => lx_int)))) (fun p104 => ()) (fun p104 => (Sub.refl _)) (by intro t i s hm he; simp at hm; subst hm; (have e := Option.some.inj he; exact e.symm)) (fun _ _ _ _ _ t105 => (lg_name 5 nd)) (fun _ _ _ _ _ t105 x106 => ltl_nil) (fun _ _ _ _ _ t105 x106 p107 => (lx_tup (la_cons (lx_var 5 cp_it rfl) (fun p108 => (la_cons (lx_var 2 cp_it rfl) (fun p109 => la_nil)))) (eT2 eI eI) (fun a : Int × Int × Unit => (a.1, a.2.1)) (fun a => [eI.enc a.1, eI.enc a.2.1]) (fun _ => (.cons (.cons .nil))) (fun _ => rfl))) (fun t105 x106 p107 p110 => ()) (fun t105 x106 p107 p110 => by exact (.keep (.keep (.keep (.keep (.keep (.drop Sub.nil))))))) (fun t105 x106 p107 => ()) (fun t105 x106 p107 => by exact (.keep (.keep (.keep (.keep (.keep (.drop Sub.nil)))))))) (fun _ => rfl) (fun y101 p100 => (lb_end (t96 ++ y101) (.keep (.keep (.drop (.drop (.drop (.keep Sub.nil)))))))))) (fun t116 => (lb_ret (lx_sh (fz_ls fz_it) (lx_sorted hu (odT2 evI odI odI) soT2 (dtT2 dtI dtI) lm_ow.w fa.z_sorted (lo_var 1 rfl) (fun _ => rfl))) (fun _ => ()) (fun p => (.drop (.drop (.keep (.keep (.keep (.keep Sub.nil))))))))))))
    (by first | (unfold m_cells_in; dsimp only [id]; done) | (unfold m_cells_in; dsimp only [id]; rfl) | rfl)
abbrev n_joint : List Str := ["spans", "found", "y", "first", "last"]
theorem sc_joint : FnScope n_joint ["spans"] (defScope s_joint) := ⟨rfl, rfl, rfl, by decide +kernel, rfl, by decide +kernel, by decide +kernel⟩
abbrev sp_joint (K : Fg) : Sp := spP K (fun a : (List (Int × Int × Int)) × Unit => [.st none (List (Int × Int × Int)) (it (eL (eT3 eI eI eI))) a.1]) (ls (it (eT3 eI eI eI))) (fun a => m_joint a.1)
set_option maxHeartbeats 0 in
theorem ok_joint (fa : Fa K mg) : FnOk P w K mg base CX0 1 fa.f_joint fa.fd_joint ["spans"] (sp_joint K) := by
  refine fnP fa.F_joint sc_joint 4 rfl (fun _ => rfl) fun cdv A' outer s H E hr => ?_
  have nd := sc_joint.nd
  have hu := hr.units
  have hu5 : (A'.deeper (envOfC "joint" (defScope s_joint) s.heap.objs.size fa.f_joint cdv)).units + 65 < cLine := by have := hr.un; omega
  rintro ⟨a_spans, _⟩
  exact lb_use (env := [.st none (List (Int × Int × Int)) (it (eL (eT3 eI eI eI))) a_spans, .un, .un, .un, .un])
    (lb_set 1 nd (lx_list la_nil (eT3 eI eI eI) (fun _ => []) (fun _ => .nil)) (fun v_found_119 p120 => (lb_for (envT := (fun t123 : (List (Int × Int × Int)) => [.st none (List (Int × Int × Int)) (it (eL (eT3 eI eI eI))) a_spans, .st none (List (Int × Int × Int)) (ls (it (eT3 eI eI eI))) t123, .un, .un, .un])) PassesOwn.never rfl (li_list lm_ow.w (lx_sorted hu (odT3 evI evI odI odI odI) soT3 (dtT3 dtI dtI dtI) lm_sh.w fa.z_sorted (lo_of (lx_var 0 cp_it rfl)) (fun _ => trivial))) (fun p122 => v_found_119) (fun p122 => (Sub.refl _)) (fun t123 => (lg_tup (E := (eT3 eI eI eI)) (lgs_cons (lg_name 2 nd) (fun _ => (lgs_cons (lg_name 3 nd) (fun _ => (lgs_cons (lg_name 4 nd) (fun _ => lgs_nil)))))) (fun x => (x.1, x.2.1, x.2.2, ())) (fun a : Int × Int × Int × Unit => [eI.enc (a.1), eI.enc (a.2.1), eI.enc (a.2.2.1)]) (fun _ => (.cons (.cons (.cons .nil)))) (fun _ => rfl) rfl (fun _ => rfl))) (fun x124 t123 kc125 kb126 => (lb_if (env1 := (fun j140 : (List (Int × Int × Int)) => [.st none (List (Int × Int × Int)) (it (eL (eT3 eI eI eI))) a_spans, .st none (List (Int × Int × Int)) (ls (it (eT3 eI eI eI))) j140, .st none Int (it eI) x124.1, .st none Int (it eI) x124.2.1, .st none Int (it eI) x124.2.2])) (lt_w (lw_and (lt_cmp (lc_gt (lx_len lm_ow.w fa.z_len (lo_var 1 rfl) (fun _ => rfl)) (fun p127 => lx_int)) (nomark _)) (fun p128 => (lw_and (lt_cmp (lc_eqI (lx_part part3_0 (lx_ix lm_ow.w (lo_var 1 rfl) (fun p129 => (lx_neg lx_int)) (fun _ _ => rfl))) (fun p131 => (lx_var 2 cp_it rfl))) (nomark _)) (fun p132 => (lw_and1 (lt_cmp (lc_ge (lx_add (lx_part part3_2 (lx_ix lm_ow.w (lo_var 1 rfl) (fun p135 => (lx_neg lx_int)) (fun _ _ => rfl))) (fun p137 => lx_int)) (fun p138 => (lx_var 3 cp_it rfl))) (nomark _)))) (fun p132 _ => Sub.refl _))) (fun p128 _ => Sub.refl _))) (fun p139 => (lb_setix 1 (lx_tup (la_cons (lx_var 2 cp_it rfl) (fun p142 => (la_cons (lx_part part3_1 (lx_ix lm_ow.w (lo_var 1 rfl) (fun p143 => (lx_neg lx_int)) (fun _ _ => rfl))) (fun p145 => (la_cons (lx_max2 rfl fa.z_max (lx_part part3_2 (lx_ix lm_ow.w (lo_var 1 rfl) (fun p146 => (lx_neg lx_int)) (fun _ _ => rfl))) (fun p148 => (lx_var 4 cp_it rfl))) (fun p149 => la_nil)))))) (eT3 eI eI eI) (fun a : Int × Int × Int × Unit => (a.1, a.2.1, a.2.2.1)) (fun a => [eI.enc a.1, eI.enc a.2.1, eI.enc a.2.2.1]) (fun _ => (.cons (.cons (.cons .nil)))) (fun _ => rfl)) (fun _ => rfl) (fun y150 p151 => (lx_neg lx_int)) (fun _ _ _ => rfl) (fun y150 p151 j152 p153 z154 => (lb_end z154 (Sub.refl _))))) (fun p139 => (lb_app 1 rfl (lx_tup (la_cons (lx_var 2 cp_it rfl) (fun p158 => (la_cons (lx_var 3 cp_it rfl) (fun p159 => (la_cons (lx_var 4 cp_it rfl) (fun p160 => la_nil)))))) (eT3 eI eI eI) (fun a : Int × Int × Int × Unit => (a.1, a.2.1, a.2.2.1)) (fun a => [eI.enc a.1, eI.enc a.2.1, eI.enc a.2.2.1]) (fun _ => (.cons (.cons (.cons .nil)))) (fun _ => rfl)) (fun _ => rfl) (fun y157 p156 => (lb_end (t123 ++ [y157]) (Sub.refl _))))) (fun j140 => (lb_end j140 (.keep (.keep (.drop (.drop (.drop Sub.nil))))))))) (fun t164 => (lb_ret (lx_move 1 rfl) (fun _ => ()) (fun p => (.drop (.keep (.keep (.keep (.keep Sub.nil)))))))))))
    (by first | (unfold m_joint; dsimp only [id]; done) | (unfold m_joint; dsimp only [id]; rfl) | rfl)
abbrev n_united : List Str := ["one", "other"]
theorem sc_united : FnScope n_united ["one", "other"] (defScope s_united) := ⟨rfl, rfl, rfl, by decide +kernel, rfl, by decide +kernel, by decide +kernel⟩
abbrev sp_united (K : Fg) : Sp := spP K (fun a : (List (Int × Int × Int)) × (List (Int × Int × Int)) × Unit => [.st none (List (Int × Int × Int)) (it (eL (eT3 eI eI eI))) a.1, .st none (List (Int × Int × Int)) (it (eL (eT3 eI eI eI))) a.2.1]) (ls (it (eT3 eI eI eI))) (fun a => m_united a.1 a.2.1)
set_option maxHeartbeats 0 in
theorem ok_united (fa : Fa K mg) : FnOk P w K mg base CX0 2 fa.f_united fa.fd_united ["one", "other"] (sp_united K) := by
  refine fnP fa.F_united sc_united 0 rfl (fun _ => rfl) fun cdv A' outer s H E hr => ?_
  have nd := sc_united.nd
  have hu := hr.units
  have hu5 : (A'.deeper (envOfC "united" (defScope s_united) s.heap.objs.size fa.f_united cdv)).units + 65 < cLine := by have := hr.un; omega
  rintro ⟨a_one, a_other, _⟩
  exact lb_use (env := [.st none (List (Int × Int × Int)) (it (eL (eT3 eI eI eI))) a_one, .st none (List (Int × Int × Int)) (it (eL (eT3 eI eI eI))) a_other])
    (lb_ret (lx_call (ok_joint fa) (hr.mono (by decide)) fa.g_joint fa.F_joint.kp fa.b_joint (fun _ => (.cons cp_it .nil)) (la_cons (lx_sh (fz_ls fz_it) (lx_cat lm_sh lm_sh (lo_of (lx_var 0 cp_it rfl)) (fun p166 => (lo_of (lx_var 1 cp_it rfl))) (fun _ _ => trivial) (fun _ _ => trivial))) (fun p169 => la_nil))) (fun _ => ()) (fun p => (.drop (.drop Sub.nil))))
    (by first | (unfold m_united; dsimp only [id]; done) | (unfold m_united; dsimp only [id]; rfl) | rfl)
abbrev n_common : List Str := ["one", "other", "found", "y", "first", "last", "row", "left", "right"]
theorem sc_common : FnScope n_common ["one", "other"] (defScope s_common) := ⟨rfl, rfl, rfl, by decide +kernel, rfl, by decide +kernel, by decide +kernel⟩
abbrev sp_common (K : Fg) : Sp := spP K (fun a : (List (Int × Int × Int)) × (List (Int × Int × Int)) × Unit => [.st none (List (Int × Int × Int)) (it (eL (eT3 eI eI eI))) a.1, .st none (List (Int × Int × Int)) (it (eL (eT3 eI eI eI))) a.2.1]) (it (eL (eT3 eI eI eI))) (fun a => m_common a.1 a.2.1)
set_option maxHeartbeats 0 in
theorem ok_common (fa : Fa K mg) : FnOk P w K mg base CX0 2 fa.f_common fa.fd_common ["one", "other"] (sp_common K) := by
  refine fnP fa.F_common sc_common 7 rfl (fun _ => rfl) fun cdv A' outer s H E hr => ?_
  have nd := sc_common.nd
  have hu := hr.units
  have hu5 : (A'.deeper (envOfC "common" (defScope s_common) s.heap.objs.size fa.f_common cdv)).units + 65 < cLine := by have := hr.un; omega
  rintro ⟨a_one, a_other, _⟩
  exact lb_use (env := [.st none (List (Int × Int × Int)) (it (eL (eT3 eI eI eI))) a_one, .st none (List (Int × Int × Int)) (it (eL (eT3 eI eI eI))) a_other, .un, .un, .un, .un, .un, .un, .un])
    (lb_set 2 nd (lx_list la_nil (eT3 eI eI eI) (fun _ => []) (fun _ => .nil)) (fun v_found_171 p172 => (lb_for (envT := (fun t174 : (List (Int × Int × Int)) => [.st none (List (Int × Int × Int)) (it (eL (eT3 eI eI eI))) a_one, .st none (List (Int × Int × Int)) (it (eL (eT3 eI eI eI))) a_other, .st none (List (Int × Int × Int)) (ls (it (eT3 eI eI eI))) t174, .un, .un, .un, .un, .un, .un])) PassesOwn.never rfl (li_list lm_sh.w (lx_var 0 cp_it rfl)) (fun p173 => v_found_171) (fun p173 => (Sub.refl _)) (fun t174 => (lg_tup (E := (eT3 eI eI eI)) (lgs_cons (lg_name 3 nd) (fun _ => (lgs_cons (lg_name 4 nd) (fun _ => (lgs_cons (lg_name 5 nd) (fun _ => lgs_nil)))))) (fun x => (x.1, x.2.1, x.2.2, ())) (fun a : Int × Int × Int × Unit => [eI.enc (a.1), eI.enc (a.2.1), eI.enc (a.2.2.1)]) (fun _ => (.cons (.cons (.cons .nil)))) (fun _ => rfl) rfl (fun _ => rfl))) (fun x175 t174 kc176 kb177 => (lb_for (envT := (fun t179 : (List (Int × Int × Int)) => [.st none (List (Int × Int × Int)) (it (eL (eT3 eI eI eI))) a_one, .st none (List (Int × Int × Int)) (it (eL (eT3 eI eI eI))) a_other, .st none (List (Int × Int × Int)) (ls (it (eT3 eI eI eI))) t179, .st none Int (it eI) x175.1, .st none Int (it eI) x175.2.1, .st none Int (it eI) x175.2.2, .un, .un, .un])) PassesOwn.never rfl (li_list lm_sh.w (lx_var 1 cp_it rfl)) (fun p178 => t174) (fun p178 => (Sub.refl _)) (fun t179 => (lg_tup (E := (eT3 eI eI eI)) (lgs_cons (lg_name 6 nd) (fun _ => (lgs_cons (lg_name 7 nd) (fun _ => (lgs_cons (lg_name 8 nd) (fun _ => lgs_nil)))))) (fun x => (x.1, x.2.1, x.2.2, ())) (fun a : Int × Int × Int × Unit => [eI.enc (a.1), eI.enc (a.2.1), eI.enc (a.2.2.1)]) (fun _ => (.cons (.cons (.cons .nil)))) (fun _ => rfl) rfl (fun _ => rfl))) (fun x180 t179 kc181 kb182 => (lb_if (env1 := (fun j189 : (List (Int × Int × Int)) => [.st none (List (Int × Int × Int)) (it (eL (eT3 eI eI eI))) a_one, .st none (List (Int × Int × Int)) (it (eL (eT3 eI eI eI))) a_other, .st none (List (Int × Int × Int)) (ls (it (eT3 eI eI eI))) j189, .st none Int (it eI) x175.1, .st none Int (it eI) x175.2.1, .st none Int (it eI) x175.2.2, .st none Int (it eI) x180.1, .st none Int (it eI) x180.2.1, .st none Int (it eI) x180.2.2])) (lt_w (lw_and (lt_cmp (lc_eqI (lx_var 6 cp_it rfl) (fun p183 => (lx_var 3 cp_it rfl))) (nomark _)) (fun p184 => (lw_and (lt_cmp (lc_le (lx_var 7 cp_it rfl) (fun p185 => (lx_var 5 cp_it rfl))) (nomark _)) (fun p186 => (lw_and1 (lt_cmp (lc_le (lx_var 4 cp_it rfl) (fun p187 => (lx_var 8 cp_it rfl))) (nomark _)))) (fun p186 _ => Sub.refl _))) (fun p184 _ => Sub.refl _))) (fun p188 => (lb_app 2 rfl (lx_tup (la_cons (lx_var 3 cp_it rfl) (fun p193 => (la_cons (lx_max2 rfl fa.z_max (lx_var 4 cp_it rfl) (fun p194 => (lx_var 7 cp_it rfl))) (fun p195 => (la_cons (lx_min2 rfl fa.z_min (lx_var 5 cp_it rfl) (fun p196 => (lx_var 8 cp_it rfl))) (fun p197 => la_nil)))))) (eT3 eI eI eI) (fun a : Int × Int × Int × Unit => (a.1, a.2.1, a.2.2.1)) (fun a => [eI.enc a.1, eI.enc a.2.1, eI.enc a.2.2.1]) (fun _ => (.cons (.cons (.cons .nil)))) (fun _ => rfl)) (fun _ => rfl) (fun y192 p191 => (lb_end (t179 ++ [y192]) (Sub.refl _))))) (fun p188 => (lb_end t179 (Sub.refl _))) (fun j189 => (lb_end j189 (.keep (.keep (.keep (.keep (.keep (.keep (.drop (.drop (.drop Sub.nil))))))))))))) (fun t201 => (lb_end t201 (.keep (.keep (.keep (.drop (.drop (.drop (.keep (.keep (.keep Sub.nil))))))))))))) (fun t203 => (lb_ret (lx_sh (fz_ls fz_it) (lx_call (ok_joint fa) (hr.mono (by decide)) fa.g_joint fa.F_joint.kp fa.b_joint (fun _ => (.cons cp_it .nil)) (la_cons (lx_frz 2 (fz_ls fz_it) rfl) (fun p204 => la_nil)))) (fun _ => ()) (fun p => (.drop (.drop (.drop (.keep (.keep (.keep (.keep (.keep (.keep Sub.nil)))))))))))))))
    (by first | (unfold m_common; dsimp only [id]; done) | (unfold m_common; dsimp only [id]; rfl) | rfl)
abbrev n_less : List Str := ["one", "other", "found", "y", "first", "last", "start", "row", "left", "right"]
theorem sc_less : FnScope n_less ["one", "other"] (defScope s_less) := ⟨rfl, rfl, rfl, by decide +kernel, rfl, by decide +kernel, by decide +kernel⟩
abbrev sp_less (K : Fg) : Sp := spP K (fun a : (List (Int × Int × Int)) × (List (Int × Int × Int)) × Unit => [.st none (List (Int × Int × Int)) (it (eL (eT3 eI eI eI))) a.1, .st none (List (Int × Int × Int)) (it (eL (eT3 eI eI eI))) a.2.1]) (it (eL (eT3 eI eI eI))) (fun a => m_less a.1 a.2.1)
set_option maxHeartbeats 0 in
theorem ok_less (fa : Fa K mg) : FnOk P w K mg base CX0 2 fa.f_less fa.fd_less ["one", "other"] (sp_less K) := by
  refine fnP fa.F_less sc_less 8 rfl (fun _ => rfl) fun cdv A' outer s H E hr => ?_
  have nd := sc_less.nd
  have hu := hr.units
  have hu5 : (A'.deeper (envOfC "less" (defScope s_less) s.heap.objs.size fa.f_less cdv)).units + 65 < cLine := by have := hr.un; omega
  rintro ⟨a_one, a_other, _⟩
  exact lb_use (env := [.st none (List (Int × Int × Int)) (it (eL (eT3 eI eI eI))) a_one, .st none (List (Int × Int × Int)) (it (eL (eT3 eI eI eI))) a_other, .un, .un, .un, .un, .un, .un, .un, .un])
    (lb_set 2 nd (lx_list la_nil (eT3 eI eI eI) (fun _ => []) (fun _ => .nil)) (fun v_found_207 p208 => (lb_for (envT := (fun t210 : (List (Int × Int × Int)) => [.st none (List (Int × Int × Int)) (it (eL (eT3 eI eI eI))) a_one, .st none (List (Int × Int × Int)) (it (eL (eT3 eI eI eI))) a_other, .st none (List (Int × Int × Int)) (ls (it (eT3 eI eI eI))) t210, .un, .un, .un, .un, .un, .un, .un])) PassesOwn.never rfl (li_list lm_sh.w (lx_var 0 cp_it rfl)) (fun p209 => v_found_207) (fun p209 => (Sub.refl _)) (fun t210 => (lg_tup (E := (eT3 eI eI eI)) (lgs_cons (lg_name 3 nd) (fun _ => (lgs_cons (lg_name 4 nd) (fun _ => (lgs_cons (lg_name 5 nd) (fun _ => lgs_nil)))))) (fun x => (x.1, x.2.1, x.2.2, ())) (fun a : Int × Int × Int × Unit => [eI.enc (a.1), eI.enc (a.2.1), eI.enc (a.2.2.1)]) (fun _ => (.cons (.cons (.cons .nil)))) (fun _ => rfl) rfl (fun _ => rfl))) (fun x211 t210 kc212 kb213 => (lb_set 6 nd (lx_var 4 cp_it rfl) (fun v_start_214 p215 => (lb_for (envT := (fun t217 : ((List (Int × Int × Int)) × Int) => [.st none (List (Int × Int × Int)) (it (eL (eT3 eI eI eI))) a_one, .st none (List (Int × Int × Int)) (it (eL (eT3 eI eI eI))) a_other, .st none (List (Int × Int × Int)) (ls (it (eT3 eI eI eI))) t217.1, .st none Int (it eI) x211.1, .st none Int (it eI) x211.2.1, .st none Int (it eI) x211.2.2, .st none Int (it eI) t217.2, .un, .un, .un])) PassesOwn.never rfl (li_list lm_sh.w (lx_var 1 cp_it rfl)) (fun p216 => (t210, v_start_214)) (fun p216 => (Sub.refl _)) (fun t217 => (lg_tup (E := (eT3 eI eI eI)) (lgs_cons (lg_name 7 nd) (fun _ => (lgs_cons (lg_name 8 nd) (fun _ => (lgs_cons (lg_name 9 nd) (fun _ => lgs_nil)))))) (fun x => (x.1, x.2.1, x.2.2, ())) (fun a : Int × Int × Int × Unit => [eI.enc (a.1), eI.enc (a.2.1), eI.enc (a.2.2.1)]) (fun _ => (.cons (.cons (.cons .nil)))) (fun _ => rfl) rfl (fun _ => rfl))) (fun x218 t217 kc219 kb220 => (lb_if (env1 := (fun j227 : ((List (Int × Int × Int)) × Int) => [.st none (List (Int × Int × Int)) (it (eL (eT3 eI eI eI))) a_one, .st none (List (Int × Int × Int)) (it (eL (eT3 eI eI eI))) a_other, .st none (List (Int × Int × Int)) (ls (it (eT3 eI eI eI))) j227.1, .st none Int (it eI) x211.1, .st none Int (it eI) x211.2.1, .st none Int (it eI) x211.2.2, .st none Int (it eI) j227.2, .st none Int (it eI) x218.1, .st none Int (it eI) x218.2.1, .st none Int (it eI) x218.2.2])) (lt_w (lw_and (lt_cmp (lc_eqI (lx_var 7 cp_it rfl) (fun p221 => (lx_var 3 cp_it rfl))) (nomark _)) (fun p222 => (lw_and (lt_cmp (lc_le (lx_var 8 cp_it rfl) (fun p223 => (lx_var 5 cp_it rfl))) (nomark _)) (fun p224 => (lw_and1 (lt_cmp (lc_le (lx_var 6 cp_it rfl) (fun p225 => (lx_var 9 cp_it rfl))) (nomark _)))) (fun p224 _ => Sub.refl _))) (fun p222 _ => Sub.refl _))) (fun p226 => (lb_if (env1 := (fun j231 : (List (Int × Int × Int)) => [.st none (List (Int × Int × Int)) (it (eL (eT3 eI eI eI))) a_one, .st none (List (Int × Int × Int)) (it (eL (eT3 eI eI eI))) a_other, .st none (List (Int × Int × Int)) (ls (it (eT3 eI eI eI))) j231, .st none Int (it eI) x211.1, .st none Int (it eI) x211.2.1, .st none Int (it eI) x211.2.2, .st none Int (it eI) t217.2, .st none Int (it eI) x218.1, .st none Int (it eI) x218.2.1, .st none Int (it eI) x218.2.2])) (lt_cmp (lc_lt (lx_var 6 cp_it rfl) (fun p229 => (lx_var 8 cp_it rfl))) (nomark _)) (fun p230 => (lb_app 2 rfl (lx_tup (la_cons (lx_var 3 cp_it rfl) (fun p235 => (la_cons (lx_var 6 cp_it rfl) (fun p236 => (la_cons (lx_sub (lx_var 8 cp_it rfl) (fun p237 => lx_int)) (fun p238 => la_nil)))))) (eT3 eI eI eI) (fun a : Int × Int × Int × Unit => (a.1, a.2.1, a.2.2.1)) (fun a => [eI.enc a.1, eI.enc a.2.1, eI.enc a.2.2.1]) (fun _ => (.cons (.cons (.cons .nil)))) (fun _ => rfl)) (fun _ => rfl) (fun y234 p233 => (lb_end (t217.1 ++ [y234]) (Sub.refl _))))) (fun p230 => (lb_end t217.1 (Sub.refl _))) (fun j231 => (lb_set 6 nd (lx_max2 rfl fa.z_max (lx_var 6 cp_it rfl) (fun p240 => (lx_add (lx_var 9 cp_it rfl) (fun p241 => lx_int)))) (fun v_start_242 p243 => (lb_end (j231, v_start_242) (Sub.refl _))))))) (fun p226 => (lb_end (t217.1, t217.2) (Sub.refl _))) (fun j227 => (lb_end (j227.1, j227.2) (.keep (.keep (.keep (.keep (.keep (.keep (.keep (.drop (.drop (.drop Sub.nil)))))))))))))) (fun t246 => (lb_if (env1 := (fun j249 : (List (Int × Int × Int)) => [.st none (List (Int × Int × Int)) (it (eL (eT3 eI eI eI))) a_one, .st none (List (Int × Int × Int)) (it (eL (eT3 eI eI eI))) a_other, .st none (List (Int × Int × Int)) (ls (it (eT3 eI eI eI))) j249, .st none Int (it eI) x211.1, .st none Int (it eI) x211.2.1, .st none Int (it eI) x211.2.2, .st none Int (it eI) t246.2, .un, .un, .un])) (lt_cmp (lc_le (lx_var 6 cp_it rfl) (fun p247 => (lx_var 5 cp_it rfl))) (nomark _)) (fun p248 => (lb_app 2 rfl (lx_tup (la_cons (lx_var 3 cp_it rfl) (fun p253 => (la_cons (lx_var 6 cp_it rfl) (fun p254 => (la_cons (lx_var 5 cp_it rfl) (fun p255 => la_nil)))))) (eT3 eI eI eI) (fun a : Int × Int × Int × Unit => (a.1, a.2.1, a.2.2.1)) (fun a => [eI.enc a.1, eI.enc a.2.1, eI.enc a.2.2.1]) (fun _ => (.cons (.cons (.cons .nil)))) (fun _ => rfl)) (fun _ => rfl) (fun y252 p251 => (lb_end (t246.1 ++ [y252]) (Sub.refl _))))) (fun p248 => (lb_end t246.1 (Sub.refl _))) (fun j249 => (lb_end j249 (.keep (.keep (.keep (.drop (.drop (.drop (.drop (.keep (.keep (.keep Sub.nil)))))))))))))))))) (fun t258 => (lb_ret (lx_sh (fz_ls fz_it) (lx_call (ok_joint fa) (hr.mono (by decide)) fa.g_joint fa.F_joint.kp fa.b_joint (fun _ => (.cons cp_it .nil)) (la_cons (lx_frz 2 (fz_ls fz_it) rfl) (fun p259 => la_nil)))) (fun _ => ()) (fun p => (.drop (.drop (.drop (.keep (.keep (.keep (.keep (.keep (.keep (.keep Sub.nil))))))))))))))))
    (by first | (unfold m_less; dsimp only [id]; done) | (unfold m_less; dsimp only [id]; rfl) | rfl)
abbrev n_moved : List Str := ["region", "x", "y", "row", "first", "last"]
theorem sc_moved : FnScope n_moved ["region", "x", "y"] (defScope s_moved) := ⟨rfl, rfl, rfl, by decide +kernel, rfl, by decide +kernel, by decide +kernel⟩
abbrev sp_moved (K : Fg) : Sp := spP K (fun a : (List (Int × Int × Int)) × Int × Int × Unit => [.st none (List (Int × Int × Int)) (it (eL (eT3 eI eI eI))) a.1, .st none Int (it eI) a.2.1, .st none Int (it eI) a.2.2.1]) (it (eL (eT3 eI eI eI))) (fun a => m_moved a.1 a.2.1 a.2.2.1)
set_option maxHeartbeats 0 in
theorem ok_moved (fa : Fa K mg) : FnOk P w K mg base CX0 1 fa.f_moved fa.fd_moved ["region", "x", "y"] (sp_moved K) := by
  refine fnP fa.F_moved sc_moved 3 rfl (fun _ => rfl) fun cdv A' outer s H E hr => ?_
  have nd := sc_moved.nd
  have hu := hr.units
  have hu5 : (A'.deeper (envOfC "moved" (defScope s_moved) s.heap.objs.size fa.f_moved cdv)).units + 65 < cLine := by have := hr.un; omega
  rintro ⟨a_region, a_x, a_y, _⟩
  exact lb_use (env := [.st none (List (Int × Int × Int)) (it (eL (eT3 eI eI eI))) a_region, .st none Int (it eI) a_x, .st none Int (it eI) a_y, .un, .un, .un])
    (lb_ret (lx_sh (fz_ls fz_it) (lx_lc (envT := (fun t263 : Unit => [.st none (List (Int × Int × Int)) (it (eL (eT3 eI eI eI))) a_region, .st none Int (it eI) a_x, .st none Int (it eI) a_y, .un, .un, .un])) rfl nd (blkOk_by (N := n_moved) (sc := defScope s_moved) (own := [("row", 3), ("first", 4), ("last", 5)]) (by decide +kernel)) (li_list lm_sh.w (lx_var 0 cp_it rfl)) (fun p262 => ()) (fun p262 => (Sub.refl _)) (by intro t i s hm he; simp at hm; rcases hm with rfl | rfl | rfl <;> (have e := Option.some.inj he; exact e.symm)) (fun _ _ _ _ _ t263 => (lg_tup (E := (eT3 eI eI eI)) (lgs_cons (lg_name 3 nd) (fun _ => (lgs_cons (lg_name 4 nd) (fun _ => (lgs_cons (lg_name 5 nd) (fun _ => lgs_nil)))))) (fun x => (x.1, x.2.1, x.2.2, ())) (fun a : Int × Int × Int × Unit => [eI.enc (a.1), eI.enc (a.2.1), eI.enc (a.2.2.1)]) (fun _ => (.cons (.cons (.cons .nil)))) (fun _ => rfl) rfl (fun _ => rfl))) (fun _ _ _ _ _ t263 x264 => ltl_nil) (fun _ _ _ _ _ t263 x264 p265 => (lx_tup (la_cons (lx_add (lx_var 3 cp_it rfl) (fun p266 => (lx_var 2 cp_it rfl))) (fun p267 => (la_cons (lx_add (lx_var 4 cp_it rfl) (fun p268 => (lx_var 1 cp_it rfl))) (fun p269 => (la_cons (lx_add (lx_var 5 cp_it rfl) (fun p270 => (lx_var 1 cp_it rfl))) (fun p271 => la_nil)))))) (eT3 eI eI eI) (fun a : Int × Int × Int × Unit => (a.1, a.2.1, a.2.2.1)) (fun a => [eI.enc a.1, eI.enc a.2.1, eI.enc a.2.2.1]) (fun _ => (.cons (.cons (.cons .nil)))) (fun _ => rfl))) (fun t263 x264 p265 p272 => ()) (fun t263 x264 p265 p272 => by exact (.keep (.keep (.keep (.drop (.drop (.drop Sub.nil))))))) (fun t263 x264 p265 => ()) (fun t263 x264 p265 => by exact (.keep (.keep (.keep (.drop (.drop (.drop Sub.nil))))))))) (fun _ => ()) (fun p => (.drop (.drop (.drop (.keep (.keep (.keep Sub.nil))))))))
    (by first | (unfold m_moved; dsimp only [id]; done) | (unfold m_moved; dsimp only [id]; rfl) | rfl)
abbrev n_put : List Str := ["region", "place", "x", "y"]
theorem sc_put : FnScope n_put ["region", "place"] (defScope s_put) := ⟨rfl, rfl, rfl, by decide +kernel, rfl, by decide +kernel, by decide +kernel⟩
abbrev sp_put (K : Fg) : Sp := spP K (fun a : (List (Int × Int × Int)) × (Int × Int × Int) × Unit => [.st none (List (Int × Int × Int)) (it (eL (eT3 eI eI eI))) a.1, .st none (Int × Int × Int) (it (eT3 eI eI eI)) a.2.1]) (it (eL (eT3 eI eI eI))) (fun a => m_put a.1 a.2.1)
set_option maxHeartbeats 0 in
theorem ok_put (fa : Fa K mg) : FnOk P w K mg base CX0 3 fa.f_put fa.fd_put ["region", "place"] (sp_put K) := by
  refine fnP fa.F_put sc_put 2 rfl (fun _ => rfl) fun cdv A' outer s H E hr => ?_
  have nd := sc_put.nd
  have hu := hr.units
  have hu5 : (A'.deeper (envOfC "put" (defScope s_put) s.heap.objs.size fa.f_put cdv)).units + 65 < cLine := by have := hr.un; omega
  rintro ⟨a_region, a_place, _⟩
  exact lb_use (env := [.st none (List (Int × Int × Int)) (it (eL (eT3 eI eI eI))) a_region, .st none (Int × Int × Int) (it (eT3 eI eI eI)) a_place, .un, .un])
    (lb_ret (lx_call (ok_region_of fa) (hr.mono (by decide)) fa.g_region_of fa.F_region_of.kp fa.b_region_of (fun _ => (.cons cp_it .nil)) (la_cons (lx_sh (fz_ls fz_it) (lx_lc (envT := (fun t279 : Unit => [.st none (List (Int × Int × Int)) (it (eL (eT3 eI eI eI))) a_region, .st none (Int × Int × Int) (it (eT3 eI eI eI)) a_place, .un, .un])) rfl nd (blkOk_by (N := n_put) (sc := defScope s_put) (own := [("x", 2), ("y", 3)]) (by decide +kernel)) (li_list lm_sh.w (lx_call (ok_cells_in fa) (hr.mono (by decide)) fa.g_cells_in fa.F_cells_in.kp fa.b_cells_in (fun _ => (.cons cp_it .nil)) (la_cons (lx_var 0 cp_it rfl) (fun p276 => la_nil)))) (fun p278 => ()) (fun p278 => (Sub.refl _)) (by intro t i s hm he; simp at hm; rcases hm with rfl | rfl <;> (have e := Option.some.inj he; exact e.symm)) (fun _ _ _ _ _ t279 => (lg_tup (E := (eT2 eI eI)) (lgs_cons (lg_name 2 nd) (fun _ => (lgs_cons (lg_name 3 nd) (fun _ => lgs_nil)))) (fun x => (x.1, x.2, ())) (fun a : Int × Int × Unit => [eI.enc (a.1), eI.enc (a.2.1)]) (fun _ => (.cons (.cons .nil))) (fun _ => rfl) rfl (fun _ => rfl))) (fun _ _ _ _ _ t279 x280 => ltl_nil) (fun _ _ _ _ _ t279 x280 p281 => (lx_call (ok_placed_cell fa) (hr.mono (by decide)) fa.g_placed_cell fa.F_placed_cell.kp fa.b_placed_cell (fun _ => (.cons cp_it (.cons cp_it (.cons cp_it .nil)))) (la_cons (lx_var 1 cp_it rfl) (fun p282 => (la_cons (lx_var 2 cp_it rfl) (fun p283 => (la_cons (lx_var 3 cp_it rfl) (fun p284 => la_nil)))))))) (fun t279 x280 p281 p286 => ()) (fun t279 x280 p281 p286 => by exact (.keep (.keep (.drop (.drop Sub.nil))))) (fun t279 x280 p281 => ()) (fun t279 x280 p281 => by exact (.keep (.keep (.drop (.drop Sub.nil))))))) (fun p290 => la_nil))) (fun _ => ()) (fun p => (.drop (.drop (.keep (.keep Sub.nil))))))
    (by first | (unfold m_put; dsimp only [id]; done) | (unfold m_put; dsimp only [id]; rfl) | rfl)
abbrev n_area : List Str := ["region", "y", "first", "last"]
theorem sc_area : FnScope n_area ["region"] (defScope s_area) := ⟨rfl, rfl, rfl, by decide +kernel, rfl, by decide +kernel, by decide +kernel⟩
abbrev sp_area (K : Fg) : Sp := spP K (fun a : (List (Int × Int × Int)) × Unit => [.st none (List (Int × Int × Int)) (it (eL (eT3 eI eI eI))) a.1]) (it eI) (fun a => m_area a.1)
set_option maxHeartbeats 0 in
theorem ok_area (fa : Fa K mg) : FnOk P w K mg base CX0 1 fa.f_area fa.fd_area ["region"] (sp_area K) := by
  refine fnP fa.F_area sc_area 3 rfl (fun _ => rfl) fun cdv A' outer s H E hr => ?_
  have nd := sc_area.nd
  have hu := hr.units
  have hu5 : (A'.deeper (envOfC "area" (defScope s_area) s.heap.objs.size fa.f_area cdv)).units + 65 < cLine := by have := hr.un; omega
  rintro ⟨a_region, _⟩
  exact lb_use (env := [.st none (List (Int × Int × Int)) (it (eL (eT3 eI eI eI))) a_region, .un, .un, .un])
    (lb_ret (lx_sum rfl lm_ow.w fa.z_sum (lo_of (lx_lc (envT := (fun t293 : Unit => [.st none (List (Int × Int × Int)) (it (eL (eT3 eI eI eI))) a_region, .un, .un, .un])) rfl nd (blkOk_by (N := n_area) (sc := defScope s_area) (own := [("y", 1), ("first", 2), ("last", 3)]) (by decide +kernel)) (li_list lm_sh.w (lx_var 0 cp_it rfl)) (fun p292 => ()) (fun p292 => (Sub.refl _)) (by intro t i s hm he; simp at hm; rcases hm with rfl | rfl | rfl <;> (have e := Option.some.inj he; exact e.symm)) (fun _ _ _ _ _ t293 => (lg_tup (E := (eT3 eI eI eI)) (lgs_cons (lg_name 1 nd) (fun _ => (lgs_cons (lg_name 2 nd) (fun _ => (lgs_cons (lg_name 3 nd) (fun _ => lgs_nil)))))) (fun x => (x.1, x.2.1, x.2.2, ())) (fun a : Int × Int × Int × Unit => [eI.enc (a.1), eI.enc (a.2.1), eI.enc (a.2.2.1)]) (fun _ => (.cons (.cons (.cons .nil)))) (fun _ => rfl) rfl (fun _ => rfl))) (fun _ _ _ _ _ t293 x294 => ltl_nil) (fun _ _ _ _ _ t293 x294 p295 => (lx_add (lx_sub (lx_var 3 cp_it rfl) (fun p297 => (lx_var 2 cp_it rfl))) (fun p298 => lx_int))) (fun t293 x294 p295 p299 => ()) (fun t293 x294 p295 p299 => by exact (.keep (.drop (.drop (.drop Sub.nil))))) (fun t293 x294 p295 => ()) (fun t293 x294 p295 => by exact (.keep (.drop (.drop (.drop Sub.nil))))))) (fun _ => trivial)) (fun _ => ()) (fun p => (.drop (.keep (.keep (.keep Sub.nil))))))
    (by first | (unfold m_area; dsimp only [id]; done) | (unfold m_area; dsimp only [id]; rfl) | rfl)
abbrev n_box : List Str := ["region", "left", "span", "right"]
theorem sc_box : FnScope n_box ["region"] (defScope s_box) := ⟨rfl, rfl, rfl, by decide +kernel, rfl, by decide +kernel, by decide +kernel⟩
abbrev sp_box (K : Fg) : Sp := spP K (fun a : (List (Int × Int × Int)) × Unit => [.st none (List (Int × Int × Int)) (it (eL (eT3 eI eI eI))) a.1]) (it (eO (eT4 eI eI eI eI) (fun _ h => by cases h))) (fun a => m_box a.1)
set_option maxHeartbeats 0 in
theorem ok_box (fa : Fa K mg) : FnOk P w K mg base CX0 1 fa.f_box fa.fd_box ["region"] (sp_box K) := by
  refine fnP fa.F_box sc_box 3 rfl (fun _ => rfl) fun cdv A' outer s H E hr => ?_
  have nd := sc_box.nd
  have hu := hr.units
  have hu5 : (A'.deeper (envOfC "box" (defScope s_box) s.heap.objs.size fa.f_box cdv)).units + 65 < cLine := by have := hr.un; omega
  rintro ⟨a_region, _⟩
  exact lb_use (env := [.st none (List (Int × Int × Int)) (it (eL (eT3 eI eI eI))) a_region, .un, .un, .un])
    (lb_ifr (lt_cmp (lc_eqI (lx_len lm_sh.w fa.z_len (lo_of (lx_var 0 cp_it rfl)) (fun _ => trivial)) (fun p303 => lx_int)) (nomark _)) (fun p304 => (lb_ret (lx_as (E' := (eO (eT4 eI eI eI eI) (fun _ h => by cases h))) lx_non (fun _ => none) (fun _ => rfl)) (fun _ => ()) (fun p => (.drop (.keep (.keep (.keep Sub.nil))))))) (fun p304 => (lb_set 1 nd (lx_minI rfl lm_ow.w fa.z_min (lo_of (lx_lc (envT := (fun t306 : Unit => [.st none (List (Int × Int × Int)) (it (eL (eT3 eI eI eI))) a_region, .un, .un, .un])) rfl nd (blkOk_by (N := n_box) (sc := defScope s_box) (own := [("span", 2)]) (by decide +kernel)) (li_list lm_sh.w (lx_var 0 cp_it rfl)) (fun p305 => ()) (fun p305 => (Sub.refl _)) (by intro t i s hm he; simp at hm; subst hm; (have e := Option.some.inj he; exact e.symm)) (fun _ _ _ _ _ t306 => (lg_name 2 nd)) (fun _ _ _ _ _ t306 x307 => ltl_nil) (fun _ _ _ _ _ t306 x307 p308 => (lx_part part3_1 (lx_var 2 cp_it rfl))) (fun t306 x307 p308 p309 => ()) (fun t306 x307 p308 p309 => by exact (.keep (.keep (.drop (.keep Sub.nil))))) (fun t306 x307 p308 => ()) (fun t306 x307 p308 => by exact (.keep (.keep (.drop (.keep Sub.nil))))))) (fun _ => trivial)) (fun v_left_314 p315 => (lb_set 3 nd (lx_maxI rfl lm_ow.w fa.z_max (lo_of (lx_lc (envT := (fun t317 : Unit => [.st none (List (Int × Int × Int)) (it (eL (eT3 eI eI eI))) a_region, .st none Int (it eI) v_left_314, .un, .un])) rfl nd (blkOk_by (N := n_box) (sc := defScope s_box) (own := [("span", 2)]) (by decide +kernel)) (li_list lm_sh.w (lx_var 0 cp_it rfl)) (fun p316 => ()) (fun p316 => (Sub.refl _)) (by intro t i s hm he; simp at hm; subst hm; (have e := Option.some.inj he; exact e.symm)) (fun _ _ _ _ _ t317 => (lg_name 2 nd)) (fun _ _ _ _ _ t317 x318 => ltl_nil) (fun _ _ _ _ _ t317 x318 p319 => (lx_part part3_2 (lx_var 2 cp_it rfl))) (fun t317 x318 p319 p320 => ()) (fun t317 x318 p319 p320 => by exact (.keep (.keep (.drop (.keep Sub.nil))))) (fun t317 x318 p319 => ()) (fun t317 x318 p319 => by exact (.keep (.keep (.drop (.keep Sub.nil))))))) (fun _ => trivial)) (fun v_right_325 p326 => (lb_ret (lx_as (E' := (eO (eT4 eI eI eI eI) (fun _ h => by cases h))) (lx_tup (la_cons (lx_var 1 cp_it rfl) (fun p327 => (la_cons (lx_part part3_0 (lx_ix lm_sh.w (lo_of (lx_var 0 cp_it rfl)) (fun p328 => lx_int) (fun _ _ => trivial))) (fun p330 => (la_cons (lx_add (lx_sub (lx_var 3 cp_it rfl) (fun p332 => (lx_var 1 cp_it rfl))) (fun p333 => lx_int)) (fun p334 => (la_cons (lx_add (lx_sub (lx_part part3_0 (lx_ix lm_sh.w (lo_of (lx_var 0 cp_it rfl)) (fun p340 => (lx_neg lx_int)) (fun _ _ => trivial))) (fun p342 => (lx_part part3_0 (lx_ix lm_sh.w (lo_of (lx_var 0 cp_it rfl)) (fun p343 => lx_int) (fun _ _ => trivial))))) (fun p345 => lx_int)) (fun p346 => la_nil)))))))) (eT4 eI eI eI eI) (fun a : Int × Int × Int × Int × Unit => (a.1, a.2.1, a.2.2.1, a.2.2.2.1)) (fun a => [eI.enc a.1, eI.enc a.2.1, eI.enc a.2.2.1, eI.enc a.2.2.2.1]) (fun _ => (.cons (.cons (.cons (.cons .nil))))) (fun _ => rfl)) some (fun _ => rfl)) (fun _ => ()) (fun p => (.drop (.drop (.keep (.drop Sub.nil))))))))))))
    (by first | (unfold m_box; dsimp only [id]; done) | (unfold m_box; dsimp only [id]; rfl) | rfl)
abbrev n_spans_fault : List Str := ["region", "at", "span", "ahead"]
theorem sc_spans_fault : FnScope n_spans_fault ["region"] (defScope s_spans_fault) := ⟨rfl, rfl, rfl, by decide +kernel, rfl, by decide +kernel, by decide +kernel⟩
abbrev sp_spans_fault (K : Fg) : Sp := spP K (fun a : (List (Int × Int × Int)) × Unit => [.st none (List (Int × Int × Int)) (it (eL (eT3 eI eI eI))) a.1]) (it eD) (fun a => m_spans_fault a.1)
set_option maxHeartbeats 0 in
theorem ok_spans_fault (fa : Fa K mg) : FnOk P w K mg base CX0 1 fa.f_spans_fault fa.fd_spans_fault ["region"] (sp_spans_fault K) := by
  refine fnP fa.F_spans_fault sc_spans_fault 3 rfl (fun _ => rfl) fun cdv A' outer s H E hr => ?_
  have nd := sc_spans_fault.nd
  have hu := hr.units
  have hu5 : (A'.deeper (envOfC "spans_fault" (defScope s_spans_fault) s.heap.objs.size fa.f_spans_fault cdv)).units + 65 < cLine := by have := hr.un; omega
  rintro ⟨a_region, _⟩
  exact lb_use (env := [.st none (List (Int × Int × Int)) (it (eL (eT3 eI eI eI))) a_region, .un, .un, .un])
    (lb_for (envT := (fun t348 : Unit => [.st none (List (Int × Int × Int)) (it (eL (eT3 eI eI eI))) a_region, .un, .un, .un])) PassesOwn.never rfl (li_enum (by rfl) fa.z_enumerate lm_sh.w (lx_var 0 cp_it rfl)) (fun p347 => ()) (fun p347 => (Sub.refl _)) (fun t348 => (lg_tup (E := (eT2 eI (eT3 eI eI eI))) (lgs_cons (lg_name 1 nd) (fun _ => (lgs_cons (lg_name 2 nd) (fun _ => lgs_nil)))) (fun x => (x.1, x.2, ())) (fun a : Int × (Int × Int × Int) × Unit => [eI.enc (a.1), (eT3 eI eI eI).enc (a.2.1)]) (fun _ => (.cons (.cons .nil))) (fun _ => rfl) rfl (fun _ => rfl))) (fun x349 t348 kc350 kb351 => (lb_set 3 nd (lx_if (lt_cmp (lc_gt (lx_var 1 cp_it rfl) (fun p352 => lx_int)) (nomark _)) (fun p353 => (lx_ix lm_sh.w (lo_of (lx_var 0 cp_it rfl)) (fun p354 => (lx_sub (lx_var 1 cp_it rfl) (fun p355 => lx_int))) (fun _ _ => trivial))) (fun p353 => (lx_tup (la_cons (lx_sub (lx_part part3_0 (lx_var 2 cp_it rfl)) (fun p357 => lx_int)) (fun p358 => (la_cons lx_int (fun p359 => (la_cons lx_int (fun p360 => la_nil)))))) (eT3 eI eI eI) (fun a : Int × Int × Int × Unit => (a.1, a.2.1, a.2.2.1)) (fun a => [eI.enc a.1, eI.enc a.2.1, eI.enc a.2.2.1]) (fun _ => (.cons (.cons (.cons .nil)))) (fun _ => rfl))) (fun p353 _ => Sub.refl _) (fun p353 _ => Sub.refl _)) (fun v_ahead_361 p362 => (lb_ifr (lt_w (lw_or (lt_cmp (lc_gt (lx_part part3_1 (lx_var 2 cp_it rfl)) (fun p363 => (lx_part part3_2 (lx_var 2 cp_it rfl)))) (nomark _)) (fun p364 => (lw_or (lt_cmp (lc_le3 hu (lx_var 2 cp_it rfl) (fun p365 => (lx_var 3 cp_it rfl))) (nomark _)) (fun p366 => (lw_or1 (lt_w (lw_and (lt_cmp (lc_eqI (lx_part part3_0 (lx_var 2 cp_it rfl)) (fun p367 => (lx_part part3_0 (lx_var 3 cp_it rfl)))) (nomark _)) (fun p368 => (lw_and1 (lt_cmp (lc_le (lx_part part3_1 (lx_var 2 cp_it rfl)) (fun p369 => (lx_add (lx_part part3_2 (lx_var 3 cp_it rfl)) (fun p370 => lx_int)))) (nomark _)))) (fun p368 _ => Sub.refl _))))) (fun p366 _ => Sub.refl _))) (fun p364 _ => Sub.refl _))) (fun p371 => (lb_ret (lx_tup (la_cons lx_str (fun p372 => (la_cons (lx_var 1 cp_it rfl) (fun p373 => la_nil)))) eD (fun a : Str × Int × Unit => PyData.tuple [eS.enc a.1, eI.enc a.2.1]) (fun a => [eS.enc a.1, eI.enc a.2.1]) (fun _ => (.cons (.cons .nil))) (fun _ => rfl)) (fun _ => ()) (fun p => (.drop (.drop (.drop (.drop Sub.nil))))))) (fun p371 => (lb_end () (.keep (.drop (.drop (.drop Sub.nil)))))))))) (fun t379 => (lb_ret (lx_as (E' := eD) lx_non eN.enc (fun _ => rfl)) (fun _ => ()) (fun p => (.drop (.keep (.keep (.keep Sub.nil))))))))
    (by first | (unfold m_spans_fault; dsimp only [id]; done) | (unfold m_spans_fault; dsimp only [id]; rfl) | rfl)
abbrev n__law_draw : List Str := ["state", "script", "size", "cell", "mixed", "digit"]
theorem sc__law_draw : FnScope n__law_draw ["state", "script", "size"] (defScope s__law_draw) := ⟨rfl, rfl, rfl, by decide +kernel, rfl, by decide +kernel, by decide +kernel⟩
abbrev sp__law_draw (K : Fg) : Sp := spI K (ls (it eI)) (fun a : List Int × Int × Unit => [.st none (List Int) scr a.1, .st none Int (it eI) a.2.1]) (it eI) (fun t0 a => m__law_draw t0 a.1 a.2.1)
set_option maxHeartbeats 0 in
theorem ok__law_draw (fa : Fa K mg) : FnOk P w K mg base CX0 1 fa.f__law_draw fa.fd__law_draw ["state", "script", "size"] (sp__law_draw K) := by
  refine fnI fa.F__law_draw sc__law_draw 3 rfl (fun _ => rfl) fun cdv A' outer s H E hr => ?_
  have nd := sc__law_draw.nd
  have hu := hr.units
  have hu5 : (A'.deeper (envOfC "_law_draw" (defScope s__law_draw) s.heap.objs.size fa.f__law_draw cdv)).units + 65 < cLine := by have := hr.un; omega
  rintro v0 t0 ⟨a_script, a_size, _⟩
  exact lb_use (env := [.st (some v0) (List Int) (ls (it eI)) t0, .st none (List Int) scr a_script, .st none Int (it eI) a_size, .un, .un, .un])
    (lb_if (env1 := (fun j385 : (List Int) => [.st (some v0) (List Int) (ls (it eI)) j385, .st none (List Int) scr a_script, .st none Int (it eI) a_size, .un, .un, .un])) (lt_cmp (lc_eqI (lx_ix lm_ow.w (lo_var 0 rfl) (fun p381 => lx_int) (fun _ _ => rfl)) (fun p383 => lx_int)) (nomark _)) (fun p384 => (lb_set 3 nd lx_int (fun v_cell_387 p388 => (lb_if (env1 := (fun j391 : Int => [.st (some v0) (List Int) (ls (it eI)) t0, .st none (List Int) scr a_script, .st none Int (it eI) a_size, .st none Int (it eI) j391, .un, .un])) (lt_cmp (lc_gt (lx_len lv_scr fa.z_len (lo_of (lx_var 1 cp_scr rfl)) (fun _ => trivial)) (fun p389 => lx_int)) (nomark _)) (fun p390 => (lb_set 3 nd (lx_ix lv_scr (lo_of (lx_var 1 cp_scr rfl)) (fun p393 => (lx_mod (lx_ix lm_ow.w (lo_var 0 rfl) (fun p394 => lx_int) (fun _ _ => rfl)) (fun p396 => (lx_len lv_scr fa.z_len (lo_of (lx_var 1 cp_scr rfl)) (fun _ => trivial))))) (fun _ _ => trivial)) (fun v_cell_398 p399 => (lb_end v_cell_398 (Sub.refl _))))) (fun p390 => (lb_end v_cell_387 (Sub.refl _))) (fun j391 => (lb_if (env1 := (fun j402 : Int => [.st (some v0) (List Int) (ls (it eI)) t0, .st none (List Int) scr a_script, .st none Int (it eI) a_size, .st none Int (it eI) j402, .un, .un])) (lt_cmp (lc_lt (lx_var 3 cp_it rfl) (fun p400 => lx_int)) (nomark _)) (fun p401 => (lb_set 3 nd (lx_sub lx_int (fun p404 => (lx_mul lx_int (fun p405 => (lx_var 3 cp_it rfl))))) (fun v_cell_406 p407 => (lb_end v_cell_406 (Sub.refl _))))) (fun p401 => (lb_end j391 (Sub.refl _))) (fun j402 => (lb_set 4 nd (lx_mod (lx_int1 fa.z_int (lx_mul (lx_add (lx_add (lx_var 3 cp_it rfl) (fun p412 => (lx_mul (lx_ix lm_ow.w (lo_var 0 rfl) (fun p413 => lx_int) (fun _ _ => rfl)) (fun p415 => lx_int)))) (fun p416 => lx_int)) (fun p417 => lx_int))) (fun p418 => lx_int)) (fun v_mixed_419 p420 => (lb_setix 0 (lx_mod (lx_int1 fa.z_int (lx_add (lx_mul (lx_var 4 cp_it rfl) (fun p422 => lx_int)) (fun p423 => (lx_mul (lx_ix lm_ow.w (lo_var 0 rfl) (fun p424 => lx_int) (fun _ _ => rfl)) (fun p426 => lx_int))))) (fun p427 => lx_int)) (fun _ => rfl) (fun y428 p429 => lx_int) (fun _ _ _ => rfl) (fun y428 p429 j430 p431 z432 => (lb_if (env1 := (fun j440 : (List Int) => [.st (some v0) (List Int) (ls (it eI)) j440, .st none (List Int) scr a_script, .st none Int (it eI) a_size, .st none Int (it eI) j402, .st none Int (it eI) v_mixed_419, .un])) (lt_w (lw_and (lt_cmp (lc_ge (lx_var 3 cp_it rfl) (fun p433 => (lx_pow lx_int (fun p434 => lx_int)))) (nomark _)) (fun p435 => (lw_and1 (lt_cmp (lc_lt (lx_ix lm_ow.w (lo_var 0 rfl) (fun p436 => lx_int) (fun _ _ => rfl)) (fun p438 => (lx_len lv_scr fa.z_len (lo_of (lx_var 1 cp_scr rfl)) (fun _ => trivial)))) (nomark _)))) (fun p435 _ => Sub.refl _))) (fun p439 => (lb_setix 0 (lx_var 3 cp_it rfl) (fun _ => rfl) (fun y442 p443 => lx_int) (fun _ _ _ => rfl) (fun y442 p443 j444 p445 z446 => (lb_end z446 (Sub.refl _))))) (fun p439 => (lb_end z432 (Sub.refl _))) (fun j440 => (lb_setix 0 (lx_add (lx_ix lm_ow.w (lo_var 0 rfl) (fun p450 => lx_int) (fun _ _ => rfl)) (fun p452 => lx_int)) (fun _ => rfl) (fun y453 p454 => lx_int) (fun _ _ _ => rfl) (fun y453 p454 j455 p456 z457 => (lb_end z457 (.keep (.keep (.keep (.drop (.drop (.keep Sub.nil)))))))))))))))))))))) (fun p384 => (lb_end t0 (Sub.refl _))) (fun j385 => (lb_set 5 nd (lx_mod (lx_int1 fa.z_int (lx_ix lm_ow.w (lo_var 0 rfl) (fun p461 => lx_int) (fun _ _ => rfl))) (fun p463 => (lx_var 2 cp_it rfl))) (fun v_digit_464 p465 => (lb_setix 0 (lx_fdiv (lx_ix lm_ow.w (lo_var 0 rfl) (fun p466 => lx_int) (fun _ _ => rfl)) (fun p468 => (lx_var 2 cp_it rfl))) (fun _ => rfl) (fun y469 p470 => lx_int) (fun _ _ _ => rfl) (fun y469 p470 j471 p472 z473 => (lb_ret (lx_var 5 cp_it rfl) (fun p => z473) (fun p => (.keep (.drop (.drop (.keep (.keep (.drop Sub.nil))))))))))))))
    (by first | (unfold m__law_draw; dsimp only [id]; done) | (unfold m__law_draw; dsimp only [id]; rfl) | rfl)
abbrev n__law_pick : List Str := ["state", "script", "items"]
theorem sc__law_pick : FnScope n__law_pick ["state", "script", "items"] (defScope s__law_pick) := ⟨rfl, rfl, rfl, by decide +kernel, rfl, by decide +kernel, by decide +kernel⟩
abbrev sp__law_pick (K : Fg) : Sp := spI K (ls (it eI)) (fun a : List Int × (List (Int × Int × Int)) × Unit => [.st none (List Int) scr a.1, .st none (List (Int × Int × Int)) (it (eL (eT3 eI eI eI))) a.2.1]) (it (eT3 eI eI eI)) (fun t0 a => m__law_pick t0 a.1 a.2.1)
set_option maxHeartbeats 0 in
theorem ok__law_pick (fa : Fa K mg) : FnOk P w K mg base CX0 2 fa.f__law_pick fa.fd__law_pick ["state", "script", "items"] (sp__law_pick K) := by
  refine fnI fa.F__law_pick sc__law_pick 0 rfl (fun _ => rfl) fun cdv A' outer s H E hr => ?_
  have nd := sc__law_pick.nd
  have hu := hr.units
  have hu5 : (A'.deeper (envOfC "_law_pick" (defScope s__law_pick) s.heap.objs.size fa.f__law_pick cdv)).units + 65 < cLine := by have := hr.un; omega
  rintro v0 t0 ⟨a_script, a_items, _⟩
  exact lb_use (env := [.st (some v0) (List Int) (ls (it eI)) t0, .st none (List Int) scr a_script, .st none (List (Int × Int × Int)) (it (eL (eT3 eI eI eI))) a_items])
    (lb_ret (lx_ix lm_sh.w (lo_of (lx_var 2 cp_it rfl)) (fun p475 => (lx_callI 0 (ok__law_draw fa) (hr.mono (by decide)) fa.g__law_draw fa.F__law_draw.kp fa.b__law_draw (fun _ => (.cons cp_scr (.cons cp_it .nil))) rfl (la_cons (lx_var 1 cp_scr rfl) (fun p476 => (la_cons (lx_len lm_sh.w fa.z_len (lo_of (lx_var 2 cp_it rfl)) (fun _ => trivial)) (fun p477 => la_nil)))) (fun _ => rfl))) (fun _ _ => trivial)) (fun p => p.2.2) (fun p => (.keep (.drop (.drop Sub.nil)))))
    (by first | (unfold m__law_pick; dsimp only [id]; done) | (unfold m__law_pick; dsimp only [id]; rfl) | rfl)
abbrev n__law_blob : List Str := ["state", "script", "size", "cells", "dense", "y", "x"]
theorem sc__law_blob : FnScope n__law_blob ["state", "script", "size"] (defScope s__law_blob) := ⟨rfl, rfl, rfl, by decide +kernel, rfl, by decide +kernel, by decide +kernel⟩
abbrev sp__law_blob (K : Fg) : Sp := spI K (ls (it eI)) (fun a : List Int × Int × Unit => [.st none (List Int) scr a.1, .st none Int (it eI) a.2.1]) (it (eL (eT2 eI eI))) (fun t0 a => m__law_blob t0 a.1 a.2.1)
set_option maxHeartbeats 0 in
theorem ok__law_blob (fa : Fa K mg) : FnOk P w K mg base CX0 2 fa.f__law_blob fa.fd__law_blob ["state", "script", "size"] (sp__law_blob K) := by
  refine fnI fa.F__law_blob sc__law_blob 4 rfl (fun _ => rfl) fun cdv A' outer s H E hr => ?_
  have nd := sc__law_blob.nd
  have hu := hr.units
  have hu5 : (A'.deeper (envOfC "_law_blob" (defScope s__law_blob) s.heap.objs.size fa.f__law_blob cdv)).units + 65 < cLine := by have := hr.un; omega
  rintro v0 t0 ⟨a_script, a_size, _⟩
  exact lb_use (env := [.st (some v0) (List Int) (ls (it eI)) t0, .st none (List Int) scr a_script, .st none Int (it eI) a_size, .un, .un, .un, .un])
    (lb_set 3 nd (lx_list la_nil (eT2 eI eI) (fun _ => []) (fun _ => .nil)) (fun v_cells_480 p481 => (lb_set 4 nd (lx_add lx_int (fun p482 => (lx_callI 0 (ok__law_draw fa) (hr.mono (by decide)) fa.g__law_draw fa.F__law_draw.kp fa.b__law_draw (fun _ => (.cons cp_scr (.cons cp_it .nil))) rfl (la_cons (lx_var 1 cp_scr rfl) (fun p483 => (la_cons lx_int (fun p484 => la_nil)))) (fun _ => rfl)))) (fun v_dense_486 p487 => (lb_for (envT := (fun t489 : ((List Int) × (List (Int × Int))) => [.st (some v0) (List Int) (ls (it eI)) t489.1, .st none (List Int) scr a_script, .st none Int (it eI) a_size, .st none (List (Int × Int)) (ls (it (eT2 eI eI))) t489.2, .st none Int (it eI) v_dense_486, .un, .un])) PassesOwn.never rfl (li_range1 (by rfl) fa.z_range (lx_var 2 cp_it rfl)) (fun p488 => (p487.2.2, v_cells_480)) (fun p488 => (Sub.refl _)) (fun t489 => (lg_name 5 nd)) (fun x490 t489 kc491 kb492 => (lb_for (envT := (fun t494 : ((List Int) × (List (Int × Int))) => [.st (some v0) (List Int) (ls (it eI)) t494.1, .st none (List Int) scr a_script, .st none Int (it eI) a_size, .st none (List (Int × Int)) (ls (it (eT2 eI eI))) t494.2, .st none Int (it eI) v_dense_486, .st none Int (it eI) x490, .un])) PassesOwn.never rfl (li_range1 (by rfl) fa.z_range (lx_var 2 cp_it rfl)) (fun p493 => (t489.1, t489.2)) (fun p493 => (Sub.refl _)) (fun t494 => (lg_name 6 nd)) (fun x495 t494 kc496 kb497 => (lb_if (env1 := (fun j503 : ((List Int) × (List (Int × Int))) => [.st (some v0) (List Int) (ls (it eI)) j503.1, .st none (List Int) scr a_script, .st none Int (it eI) a_size, .st none (List (Int × Int)) (ls (it (eT2 eI eI))) j503.2, .st none Int (it eI) v_dense_486, .st none Int (it eI) x490, .st none Int (it eI) x495])) (lt_cmp (lc_lt (lx_callI 0 (ok__law_draw fa) (hr.mono (by decide)) fa.g__law_draw fa.F__law_draw.kp fa.b__law_draw (fun _ => (.cons cp_scr (.cons cp_it .nil))) rfl (la_cons (lx_var 1 cp_scr rfl) (fun p498 => (la_cons lx_int (fun p499 => la_nil)))) (fun _ => rfl)) (fun p501 => (lx_var 4 cp_it rfl))) (nomark _)) (fun p502 => (lb_app 3 rfl (lx_tup (la_cons (lx_var 6 cp_it rfl) (fun p507 => (la_cons (lx_var 5 cp_it rfl) (fun p508 => la_nil)))) (eT2 eI eI) (fun a : Int × Int × Unit => (a.1, a.2.1)) (fun a => [eI.enc a.1, eI.enc a.2.1]) (fun _ => (.cons (.cons .nil))) (fun _ => rfl)) (fun _ => rfl) (fun y506 p505 => (lb_end (p502.1.2, (t494.2 ++ [y506])) (Sub.refl _))))) (fun p502 => (lb_end (p502.1.2, t494.2) (Sub.refl _))) (fun j503 => (lb_end (j503.1, j503.2) (.keep (.keep (.keep (.keep (.keep (.keep (.drop Sub.nil))))))))))) (fun t510 => (lb_end (t510.1, t510.2) (.keep (.keep (.keep (.keep (.keep (.drop (.keep Sub.nil))))))))))) (fun t512 => (lb_ret (lx_frz 3 (fz_ls fz_it) rfl) (fun p => t512.1) (fun p => (.keep (.drop (.drop (.drop (.drop (.keep (.keep Sub.nil)))))))))))))))
    (by first | (unfold m__law_blob; dsimp only [id]; done) | (unfold m__law_blob; dsimp only [id]; rfl) | rfl)
abbrev n__law_region : List Str := ["cells", "found", "y", "x", "cell"]
theorem sc__law_region : FnScope n__law_region ["cells"] (defScope s__law_region) := ⟨rfl, rfl, rfl, by decide +kernel, rfl, by decide +kernel, by decide +kernel⟩
abbrev sp__law_region (K : Fg) : Sp := spP K (fun a : (List (Int × Int)) × Unit => [.st none (List (Int × Int)) (it (eL (eT2 eI eI))) a.1]) (it (eL (eT3 eI eI eI))) (fun a => m__law_region a.1)
set_option maxHeartbeats 0 in
theorem ok__law_region (fa : Fa K mg) : FnOk P w K mg base CX0 1 fa.f__law_region fa.fd__law_region ["cells"] (sp__law_region K) := by
  refine fnP fa.F__law_region sc__law_region 4 rfl (fun _ => rfl) fun cdv A' outer s H E hr => ?_
  have nd := sc__law_region.nd
  have hu := hr.units
  have hu5 : (A'.deeper (envOfC "_law_region" (defScope s__law_region) s.heap.objs.size fa.f__law_region cdv)).units + 65 < cLine := by have := hr.un; omega
  rintro ⟨a_cells, _⟩
  exact lb_use (env := [.st none (List (Int × Int)) (it (eL (eT2 eI eI))) a_cells, .un, .un, .un, .un])
    (lb_set 1 nd (lx_list la_nil (eT3 eI eI eI) (fun _ => []) (fun _ => .nil)) (fun v_found_514 p515 => (lb_for (envT := (fun t528 : (List (Int × Int × Int)) => [.st none (List (Int × Int)) (it (eL (eT2 eI eI))) a_cells, .st none (List (Int × Int × Int)) (ls (it (eT3 eI eI eI))) t528, .un, .un, .un])) PassesOwn.never rfl (li_list lm_ow.w (lx_sorted hu (odT2 evI odI odI) soT2 (dtT2 dtI dtI) lm_ow.w fa.z_sorted (lo_of (lx_lc (envT := (fun t517 : Unit => [.st none (List (Int × Int)) (it (eL (eT2 eI eI))) a_cells, .st none (List (Int × Int × Int)) (ls (it (eT3 eI eI eI))) v_found_514, .un, .un, .un])) rfl nd (blkOk_by (N := n__law_region) (sc := defScope s__law_region) (own := [("cell", 4)]) (by decide +kernel)) (li_list lm_sh.w (lx_var 0 cp_it rfl)) (fun p516 => ()) (fun p516 => (Sub.refl _)) (by intro t i s hm he; simp at hm; subst hm; (have e := Option.some.inj he; exact e.symm)) (fun _ _ _ _ _ t517 => (lg_name 4 nd)) (fun _ _ _ _ _ t517 x518 => ltl_nil) (fun _ _ _ _ _ t517 x518 p519 => (lx_tup (la_cons (lx_part part2_1 (lx_var 4 cp_it rfl)) (fun p520 => (la_cons (lx_part part2_0 (lx_var 4 cp_it rfl)) (fun p521 => la_nil)))) (eT2 eI eI) (fun a : Int × Int × Unit => (a.1, a.2.1)) (fun a => [eI.enc a.1, eI.enc a.2.1]) (fun _ => (.cons (.cons .nil))) (fun _ => rfl))) (fun t517 x518 p519 p522 => ()) (fun t517 x518 p519 p522 => by exact (.keep (.keep (.keep (.keep (.drop Sub.nil)))))) (fun t517 x518 p519 => ()) (fun t517 x518 p519 => by exact (.keep (.keep (.keep (.keep (.drop Sub.nil)))))))) (fun _ => trivial))) (fun p527 => v_found_514) (fun p527 => (Sub.refl _)) (fun t528 => (lg_tup (E := (eT2 eI eI)) (lgs_cons (lg_name 2 nd) (fun _ => (lgs_cons (lg_name 3 nd) (fun _ => lgs_nil)))) (fun x => (x.1, x.2, ())) (fun a : Int × Int × Unit => [eI.enc (a.1), eI.enc (a.2.1)]) (fun _ => (.cons (.cons .nil))) (fun _ => rfl) rfl (fun _ => rfl))) (fun x529 t528 kc530 kb531 => (lb_if (env1 := (fun j543 : (List (Int × Int × Int)) => [.st none (List (Int × Int)) (it (eL (eT2 eI eI))) a_cells, .st none (List (Int × Int × Int)) (ls (it (eT3 eI eI eI))) j543, .st none Int (it eI) x529.1, .st none Int (it eI) x529.2, .un])) (lt_w (lw_and (lt_cmp (lc_gt (lx_len lm_ow.w fa.z_len (lo_var 1 rfl) (fun _ => rfl)) (fun p532 => lx_int)) (nomark _)) (fun p533 => (lw_and (lt_cmp (lc_eqI (lx_part part3_0 (lx_ix lm_ow.w (lo_var 1 rfl) (fun p534 => (lx_neg lx_int)) (fun _ _ => rfl))) (fun p536 => (lx_var 2 cp_it rfl))) (nomark _)) (fun p537 => (lw_and1 (lt_cmp (lc_eqI (lx_part part3_2 (lx_ix lm_ow.w (lo_var 1 rfl) (fun p538 => (lx_neg lx_int)) (fun _ _ => rfl))) (fun p540 => (lx_sub (lx_var 3 cp_it rfl) (fun p541 => lx_int)))) (nomark _)))) (fun p537 _ => Sub.refl _))) (fun p533 _ => Sub.refl _))) (fun p542 => (lb_setix 1 (lx_tup (la_cons (lx_var 2 cp_it rfl) (fun p545 => (la_cons (lx_part part3_1 (lx_ix lm_ow.w (lo_var 1 rfl) (fun p546 => (lx_neg lx_int)) (fun _ _ => rfl))) (fun p548 => (la_cons (lx_var 3 cp_it rfl) (fun p549 => la_nil)))))) (eT3 eI eI eI) (fun a : Int × Int × Int × Unit => (a.1, a.2.1, a.2.2.1)) (fun a => [eI.enc a.1, eI.enc a.2.1, eI.enc a.2.2.1]) (fun _ => (.cons (.cons (.cons .nil)))) (fun _ => rfl)) (fun _ => rfl) (fun y550 p551 => (lx_neg lx_int)) (fun _ _ _ => rfl) (fun y550 p551 j552 p553 z554 => (lb_end z554 (Sub.refl _))))) (fun p542 => (lb_if (env1 := (fun j566 : (List (Int × Int × Int)) => [.st none (List (Int × Int)) (it (eL (eT2 eI eI))) a_cells, .st none (List (Int × Int × Int)) (ls (it (eT3 eI eI eI))) j566, .st none Int (it eI) x529.1, .st none Int (it eI) x529.2, .un])) (lt_w (lw_or (lt_cmp (lc_eqI (lx_len lm_ow.w fa.z_len (lo_var 1 rfl) (fun _ => rfl)) (fun p556 => lx_int)) (nomark _)) (fun p557 => (lw_or (lt_cmp (lc_neI (lx_part part3_0 (lx_ix lm_ow.w (lo_var 1 rfl) (fun p558 => (lx_neg lx_int)) (fun _ _ => rfl))) (fun p560 => (lx_var 2 cp_it rfl))) (nomark _)) (fun p561 => (lw_or1 (lt_cmp (lc_neI (lx_part part3_2 (lx_ix lm_ow.w (lo_var 1 rfl) (fun p562 => (lx_neg lx_int)) (fun _ _ => rfl))) (fun p564 => (lx_var 3 cp_it rfl))) (nomark _)))) (fun p561 _ => Sub.refl _))) (fun p557 _ => Sub.refl _))) (fun p565 => (lb_app 1 rfl (lx_tup (la_cons (lx_var 2 cp_it rfl) (fun p570 => (la_cons (lx_var 3 cp_it rfl) (fun p571 => (la_cons (lx_var 3 cp_it rfl) (fun p572 => la_nil)))))) (eT3 eI eI eI) (fun a : Int × Int × Int × Unit => (a.1, a.2.1, a.2.2.1)) (fun a => [eI.enc a.1, eI.enc a.2.1, eI.enc a.2.2.1]) (fun _ => (.cons (.cons (.cons .nil)))) (fun _ => rfl)) (fun _ => rfl) (fun y569 p568 => (lb_end (t528 ++ [y569]) (Sub.refl _))))) (fun p565 => (lb_end t528 (Sub.refl _))) (fun j566 => (lb_end j566 (Sub.refl _))))) (fun j543 => (lb_end j543 (.keep (.keep (.drop (.drop (.keep Sub.nil))))))))) (fun t578 => (lb_ret (lx_frz 1 (fz_ls fz_it) rfl) (fun _ => ()) (fun p => (.drop (.drop (.keep (.keep (.keep Sub.nil)))))))))))
    (by first | (unfold m__law_region; dsimp only [id]; done) | (unfold m__law_region; dsimp only [id]; rfl) | rfl)
abbrev n__law_put : List Str := ["place", "cell", "x", "y", "_", "old"]
theorem sc__law_put : FnScope n__law_put ["place", "cell"] (defScope s__law_put) := ⟨rfl, rfl, rfl, by decide +kernel, rfl, by decide +kernel, by decide +kernel⟩
abbrev sp__law_put (K : Fg) : Sp := spP K (fun a : (Int × Int × Int) × (Int × Int) × Unit => [.st none (Int × Int × Int) (it (eT3 eI eI eI)) a.1, .st none (Int × Int) (it (eT2 eI eI)) a.2.1]) (it (eT2 eI eI)) (fun a => m__law_put a.1 a.2.1)
set_option maxHeartbeats 0 in
theorem ok__law_put (fa : Fa K mg) : FnOk P w K mg base CX0 1 fa.f__law_put fa.fd__law_put ["place", "cell"] (sp__law_put K) := by
  refine fnP fa.F__law_put sc__law_put 4 rfl (fun _ => rfl) fun cdv A' outer s H E hr => ?_
  have nd := sc__law_put.nd
  have hu := hr.units
  have hu5 : (A'.deeper (envOfC "_law_put" (defScope s__law_put) s.heap.objs.size fa.f__law_put cdv)).units + 65 < cLine := by have := hr.un; omega
  rintro ⟨a_place, a_cell, _⟩
  exact lb_use (env := [.st none (Int × Int × Int) (it (eT3 eI eI eI)) a_place, .st none (Int × Int) (it (eT2 eI eI)) a_cell, .un, .un, .un, .un])
    (lb_asg (lx_var 1 cp_it rfl) (fun p581 => (lg_tup (E := (eT2 eI eI)) (lgs_cons (lg_name 2 nd) (fun _ => (lgs_cons (lg_name 3 nd) (fun _ => lgs_nil)))) (fun x => (x.1, x.2, ())) (fun a : Int × Int × Unit => [eI.enc (a.1), eI.enc (a.2.1)]) (fun _ => (.cons (.cons .nil))) (fun _ => rfl) rfl (fun _ => rfl))) (fun x580 p581 => (lb_if (env1 := (fun j584 : Int => [.st none (Int × Int × Int) (it (eT3 eI eI eI)) a_place, .st none (Int × Int) (it (eT2 eI eI)) a_cell, .st none Int (it eI) j584, .st none Int (it eI) x580.2, .un, .un])) (lt_cmp (lc_ge (lx_part part3_2 (lx_var 0 cp_it rfl)) (fun p582 => lx_int)) (nomark _)) (fun p583 => (lb_set 2 nd (lx_sub (lx_neg lx_int) (fun p586 => (lx_var 2 cp_it rfl))) (fun v_x_587 p588 => (lb_end v_x_587 (Sub.refl _))))) (fun p583 => (lb_end x580.1 (Sub.refl _))) (fun j584 => (lb_for (envT := (fun t591 : (Int × Int) => [.st none (Int × Int × Int) (it (eT3 eI eI eI)) a_place, .st none (Int × Int) (it (eT2 eI eI)) a_cell, .st none Int (it eI) t591.1, .st none Int (it eI) t591.2, .un, .un])) PassesOwn.never rfl (li_range1 (by rfl) fa.z_range (lx_mod (lx_part part3_2 (lx_var 0 cp_it rfl)) (fun p589 => lx_int))) (fun p590 => (j584, x580.2)) (fun p590 => (Sub.refl _)) (fun t591 => (lg_name 4 nd)) (fun x592 t591 kc593 kb594 => (lb_set 5 nd (lx_var 2 cp_it rfl) (fun v_old_595 p596 => (lb_set 2 nd (lx_sub (lx_neg lx_int) (fun p597 => (lx_var 3 cp_it rfl))) (fun v_x_598 p599 => (lb_set 3 nd (lx_var 5 cp_it rfl) (fun v_y_600 p601 => (lb_end (v_x_598, v_y_600) (.keep (.keep (.keep (.keep (.drop (.drop Sub.nil)))))))))))))) (fun t602 => (lb_ret (lx_tup (la_cons (lx_add (lx_var 2 cp_it rfl) (fun p603 => (lx_part part3_0 (lx_var 0 cp_it rfl)))) (fun p604 => (la_cons (lx_add (lx_var 3 cp_it rfl) (fun p605 => (lx_part part3_1 (lx_var 0 cp_it rfl)))) (fun p606 => la_nil)))) (eT2 eI eI) (fun a : Int × Int × Unit => (a.1, a.2.1)) (fun a => [eI.enc a.1, eI.enc a.2.1]) (fun _ => (.cons (.cons .nil))) (fun _ => rfl)) (fun _ => ()) (fun p => (.drop (.drop (.drop (.drop (.keep (.keep Sub.nil))))))))))))))
    (by first | (unfold m__law_put; dsimp only [id]; done) | (unfold m__law_put; dsimp only [id]; rfl) | rfl)
abbrev n__law_fault : List Str := ["region", "k", "y", "first", "last", "ahead"]
theorem sc__law_fault : FnScope n__law_fault ["region"] (defScope s__law_fault) := ⟨rfl, rfl, rfl, by decide +kernel, rfl, by decide +kernel, by decide +kernel⟩
abbrev sp__law_fault (K : Fg) : Sp := spP K (fun a : (List (Int × Int × Int)) × Unit => [.st none (List (Int × Int × Int)) (it (eL (eT3 eI eI eI))) a.1]) (it eD) (fun a => m__law_fault a.1)
set_option maxHeartbeats 0 in
theorem ok__law_fault (fa : Fa K mg) : FnOk P w K mg base CX0 1 fa.f__law_fault fa.fd__law_fault ["region"] (sp__law_fault K) := by
  refine fnP fa.F__law_fault sc__law_fault 5 rfl (fun _ => rfl) fun cdv A' outer s H E hr => ?_
  have nd := sc__law_fault.nd
  have hu := hr.units
  have hu5 : (A'.deeper (envOfC "_law_fault" (defScope s__law_fault) s.heap.objs.size fa.f__law_fault cdv)).units + 65 < cLine := by have := hr.un; omega
  rintro ⟨a_region, _⟩
  exact lb_use (env := [.st none (List (Int × Int × Int)) (it (eL (eT3 eI eI eI))) a_region, .un, .un, .un, .un, .un])
    (lb_for (envT := (fun t609 : Unit => [.st none (List (Int × Int × Int)) (it (eL (eT3 eI eI eI))) a_region, .un, .un, .un, .un, .un])) PassesOwn.never rfl (li_range1 (by rfl) fa.z_range (lx_len lm_sh.w fa.z_len (lo_of (lx_var 0 cp_it rfl)) (fun _ => trivial))) (fun p608 => ()) (fun p608 => (Sub.refl _)) (fun t609 => (lg_name 1 nd)) (fun x610 t609 kc611 kb612 => (lb_asg (lx_ix lm_sh.w (lo_of (lx_var 0 cp_it rfl)) (fun p613 => (lx_var 1 cp_it rfl)) (fun _ _ => trivial)) (fun p616 => (lg_tup (E := (eT3 eI eI eI)) (lgs_cons (lg_name 2 nd) (fun _ => (lgs_cons (lg_name 3 nd) (fun _ => (lgs_cons (lg_name 4 nd) (fun _ => lgs_nil)))))) (fun x => (x.1, x.2.1, x.2.2, ())) (fun a : Int × Int × Int × Unit => [eI.enc (a.1), eI.enc (a.2.1), eI.enc (a.2.2.1)]) (fun _ => (.cons (.cons (.cons .nil)))) (fun _ => rfl) rfl (fun _ => rfl))) (fun x615 p616 => (lb_ifr (lt_cmp (lc_gt (lx_var 3 cp_it rfl) (fun p617 => (lx_var 4 cp_it rfl))) (nomark _)) (fun p618 => (lb_ret (lx_tup (la_cons lx_str (fun p619 => (la_cons (lx_var 1 cp_it rfl) (fun p620 => la_nil)))) eD (fun a : Str × Int × Unit => PyData.tuple [eS.enc a.1, eI.enc a.2.1]) (fun a => [eS.enc a.1, eI.enc a.2.1]) (fun _ => (.cons (.cons .nil))) (fun _ => rfl)) (fun _ => ()) (fun p => (.drop (.drop (.drop (.drop (.drop (.keep Sub.nil))))))))) (fun p618 => (lb_if (env1 := (fun j623 : Unit => [.st none (List (Int × Int × Int)) (it (eL (eT3 eI eI eI))) a_region, .st none Int (it eI) x610, .st none Int (it eI) x615.1, .st none Int (it eI) x615.2.1, .st none Int (it eI) x615.2.2, .un])) (lt_cmp (lc_gt (lx_var 1 cp_it rfl) (fun p621 => lx_int)) (nomark _)) (fun p622 => (lb_set 5 nd (lx_ix lm_sh.w (lo_of (lx_var 0 cp_it rfl)) (fun p625 => (lx_sub (lx_var 1 cp_it rfl) (fun p626 => lx_int))) (fun _ _ => trivial)) (fun v_ahead_628 p629 => (lb_ifr (lt_w (lw_or (lt_cmp (lc_le3 hu (lx_tup (la_cons (lx_var 2 cp_it rfl) (fun p630 => (la_cons (lx_var 3 cp_it rfl) (fun p631 => (la_cons (lx_var 4 cp_it rfl) (fun p632 => la_nil)))))) (eT3 eI eI eI) (fun a : Int × Int × Int × Unit => (a.1, a.2.1, a.2.2.1)) (fun a => [eI.enc a.1, eI.enc a.2.1, eI.enc a.2.2.1]) (fun _ => (.cons (.cons (.cons .nil)))) (fun _ => rfl)) (fun p633 => (lx_var 5 cp_it rfl))) (nomark _)) (fun p634 => (lw_or1 (lt_w (lw_and (lt_cmp (lc_eqI (lx_var 2 cp_it rfl) (fun p635 => (lx_part part3_0 (lx_var 5 cp_it rfl)))) (nomark _)) (fun p636 => (lw_and1 (lt_cmp (lc_le (lx_var 3 cp_it rfl) (fun p637 => (lx_add (lx_part part3_2 (lx_var 5 cp_it rfl)) (fun p638 => lx_int)))) (nomark _)))) (fun p636 _ => Sub.refl _))))) (fun p634 _ => Sub.refl _))) (fun p639 => (lb_ret (lx_tup (la_cons lx_str (fun p640 => (la_cons (lx_var 1 cp_it rfl) (fun p641 => la_nil)))) eD (fun a : Str × Int × Unit => PyData.tuple [eS.enc a.1, eI.enc a.2.1]) (fun a => [eS.enc a.1, eI.enc a.2.1]) (fun _ => (.cons (.cons .nil))) (fun _ => rfl)) (fun _ => ()) (fun p => (.drop (.drop (.drop (.drop (.drop (.drop Sub.nil))))))))) (fun p639 => (lb_end () (.keep (.keep (.keep (.keep (.keep (.drop Sub.nil)))))))))))) (fun p622 => (lb_end () (Sub.refl _))) (fun j623 => (lb_end () (.keep (.drop (.drop (.drop (.drop (.keep Sub.nil)))))))))))))) (fun t644 => (lb_ret (lx_as (E' := eD) lx_non eN.enc (fun _ => rfl)) (fun _ => ()) (fun p => (.drop (.keep (.keep (.keep (.keep (.keep Sub.nil))))))))))
    (by first | (unfold m__law_fault; dsimp only [id]; done) | (unfold m__law_fault; dsimp only [id]; rfl) | rfl)
abbrev n_law : List Str := ["script", "state", "one", "other", "left", "right", "kept", "both", "cell", "x", "y", "place", "due", "xs", "ys", "bent", "at", "span", "found"]
theorem sc_law : FnScope n_law ["script"] (defScope s_law) := ⟨rfl, rfl, rfl, by decide +kernel, rfl, by decide +kernel, by decide +kernel⟩
abbrev sp_law (K : Fg) : Sp := spP K (fun a : List Int × Unit => [.st none (List Int) scr a.1]) (it eB) (fun a => m_law a.1)
set_option maxHeartbeats 0 in
theorem ok_law (fa : Fa K mg) : FnG P w K mg base 4 fa.f_law fa.fd_law ["script"] (sp_law K) := by
  refine fnPG fa.F_law sc_law 18 rfl (fun _ => rfl) fun cdv A' outer s H E hgd hr => ?_
  have nd := sc_law.nd
  have hu := hr.units
  have hu5 : (A'.deeper (envOfC "law" (defScope s_law) s.heap.objs.size fa.f_law cdv)).units + 65 < cLine := by have := hr.un; omega
  rintro ⟨a_script, _⟩
  exact lb_use (env := [.st none (List Int) scr a_script, .un, .un, .un, .un, .un, .un, .un, .un, .un, .un, .un, .un, .un, .un, .un, .un, .un, .un])
    (lb_set 1 nd (lx_list (la_cons lx_int (fun p646 => (la_cons lx_int (fun p647 => la_nil)))) eI (fun a : Int × Int × Unit => [a.1, a.2.1]) (fun _ => (.cons (.cons .nil)))) (fun v_state_648 p649 => (lb_set 2 nd (lx_callI 1 (ok__law_blob fa) (hr.mono (by decide)) fa.g__law_blob fa.F__law_blob.kp fa.b__law_blob (fun _ => (.cons cp_scr (.cons cp_it .nil))) rfl (la_cons (lx_var 0 cp_scr rfl) (fun p650 => (la_cons (lx_add lx_int (fun p651 => (lx_callI 1 (ok__law_draw fa) (hr.mono (by decide)) fa.g__law_draw fa.F__law_draw.kp fa.b__law_draw (fun _ => (.cons cp_scr (.cons cp_it .nil))) rfl (la_cons (lx_var 0 cp_scr rfl) (fun p652 => (la_cons lx_int (fun p653 => la_nil)))) (fun _ => rfl)))) (fun p655 => la_nil)))) (fun _ => rfl)) (fun v_one_657 p658 => (lb_set 3 nd (lx_callI 1 (ok__law_blob fa) (hr.mono (by decide)) fa.g__law_blob fa.F__law_blob.kp fa.b__law_blob (fun _ => (.cons cp_scr (.cons cp_it .nil))) rfl (la_cons (lx_var 0 cp_scr rfl) (fun p659 => (la_cons (lx_add lx_int (fun p660 => (lx_callI 1 (ok__law_draw fa) (hr.mono (by decide)) fa.g__law_draw fa.F__law_draw.kp fa.b__law_draw (fun _ => (.cons cp_scr (.cons cp_it .nil))) rfl (la_cons (lx_var 0 cp_scr rfl) (fun p661 => (la_cons lx_int (fun p662 => la_nil)))) (fun _ => rfl)))) (fun p664 => la_nil)))) (fun _ => rfl)) (fun v_other_666 p667 => (lb_set 4 nd (lx_call (ok_region_of fa) (hr.mono (by decide)) fa.g_region_of fa.F_region_of.kp fa.b_region_of (fun _ => (.cons cp_it .nil)) (la_cons (lx_sh (fz_ls fz_it) (lx_cat lm_ow lm_ow (lo_of (lx_listof lm_sh.w fa.z_list (lo_of (lx_var 2 cp_it rfl)) (fun _ => trivial))) (fun p668 => (lo_of (lx_slR lm_sh.w (lx_var 2 cp_it rfl) (fun p669 => lx_int)))) (fun _ _ => trivial) (fun _ _ => trivial))) (fun p672 => la_nil))) (fun v_left_674 p675 => (lb_set 5 nd (lx_call (ok_region_of fa) (hr.mono (by decide)) fa.g_region_of fa.F_region_of.kp fa.b_region_of (fun _ => (.cons cp_it .nil)) (la_cons (lx_sh (fz_ls fz_it) (lx_rev lm_ow.w (lx_listof lm_sh.w fa.z_list (lo_of (lx_var 3 cp_it rfl)) (fun _ => trivial)))) (fun p676 => la_nil))) (fun v_right_678 p679 => (lb_ifr (lt_w (lw_or (lt_cmp (lc_neT hu dv_it dv_it (dtL (dtT3 dtI dtI dtI)) (evL (evT3 evI evI evI)) (lo_of (lx_var 4 cp_it rfl)) (fun p680 => (lo_of (lx_call (ok__law_region fa) (hr.mono (by decide)) fa.g__law_region fa.F__law_region.kp fa.b__law_region (fun _ => (.cons cp_it .nil)) (la_cons (lx_var 2 cp_it rfl) (fun p681 => la_nil))))) (fun _ _ => trivial) (fun _ _ => trivial)) (nomark _)) (fun p683 => (lw_or (lt_cmp (lc_neT hu dv_it dv_it (dtL (dtT3 dtI dtI dtI)) (evL (evT3 evI evI evI)) (lo_of (lx_var 5 cp_it rfl)) (fun p684 => (lo_of (lx_call (ok__law_region fa) (hr.mono (by decide)) fa.g__law_region fa.F__law_region.kp fa.b__law_region (fun _ => (.cons cp_it .nil)) (la_cons (lx_var 3 cp_it rfl) (fun p685 => la_nil))))) (fun _ _ => trivial) (fun _ _ => trivial)) (nomark _)) (fun p687 => (lw_or1 (lt_cmp (lc_neT hu dv_it (dv_ls dv_it) (dtL (dtT2 dtI dtI)) (evL (evT2 evI evI)) (lo_of (lx_call (ok_cells_in fa) (hr.mono (by decide)) fa.g_cells_in fa.F_cells_in.kp fa.b_cells_in (fun _ => (.cons cp_it .nil)) (la_cons (lx_var 4 cp_it rfl) (fun p688 => la_nil)))) (fun p690 => (lo_of (lx_sorted hu (odT2 evI odI odI) soT2 (dtT2 dtI dtI) lm_sh.w fa.z_sorted (lo_of (lx_var 2 cp_it rfl)) (fun _ => trivial)))) (fun _ _ => trivial) (fun _ _ => trivial)) (nomark _)))) (fun p687 _ => Sub.refl _))) (fun p683 _ => Sub.refl _))) (fun p692 => (lb_ret lx_bl (fun _ => ()) (fun p => (.drop (.drop (.drop (.drop (.drop (.drop (.keep (.keep (.keep (.keep (.keep (.keep (.keep (.keep (.keep (.keep (.keep (.keep (.keep Sub.nil)))))))))))))))))))))) (fun p692 => (lb_set 6 nd (lx_repr hgd hu (dv_ls dv_it) fa.z_repr (lo_of (lx_list (la_cons (lx_var 4 cp_it rfl) (fun p693 => (la_cons (lx_var 5 cp_it rfl) (fun p694 => la_nil)))) (eL (eT3 eI eI eI)) (fun a : (List (Int × Int × Int)) × (List (Int × Int × Int)) × Unit => [a.1, a.2.1]) (fun _ => (.cons (.cons .nil))))) (fun _ => trivial)) (fun v_kept_696 p697 => (lb_setLc (envT := (fun t699 : Unit => [.st none (List Int) scr a_script, .st none (List Int) (ls (it eI)) p667.2, .st none (List (Int × Int)) (it (eL (eT2 eI eI))) v_one_657, .st none (List (Int × Int)) (it (eL (eT2 eI eI))) v_other_666, .st none (List (Int × Int × Int)) (it (eL (eT3 eI eI eI))) v_left_674, .st none (List (Int × Int × Int)) (it (eL (eT3 eI eI eI))) v_right_678, .st none Str (it eS) v_kept_696, .un, .un, .un, .un, .un, .un, .un, .un, .un, .un, .un, .un])) rfl nd (blkOk_by (N := n_law) (sc := defScope s_law) (own := [("cell", 8)]) (by decide +kernel)) 7 (li_list lm_sh.w (lx_var 2 cp_it rfl)) (fun p698 => ()) (fun p698 => (Sub.refl _)) (by intro t i s hm he; simp at hm; subst hm; (have e := Option.some.inj he; exact e.symm)) (fun _ _ _ _ _ t699 => (lg_name 8 nd)) (fun _ _ _ _ _ t699 x700 => (ltl_one (lt_cmp (lc_inT hu5 dv_it dv_it (dtT2 dtI dtI) (evT2 evI evI) (lo_of (lx_var 8 cp_it rfl)) (fun p701 => (lo_of (lx_var 3 cp_it rfl))) (fun _ _ => trivial) (fun _ _ => trivial)) (by rfl)))) (fun _ _ _ _ _ t699 x700 p702 => (lx_var 8 cp_it rfl)) (fun t699 x700 p702 p703 => ()) (fun t699 x700 p702 p703 => by exact (.keep (.keep (.keep (.keep (.keep (.keep (.keep (.keep (.drop (.keep (.keep (.keep (.keep (.keep (.keep (.keep (.keep (.keep (.keep Sub.nil)))))))))))))))))))) (fun t699 x700 p702 => ()) (fun t699 x700 p702 => by exact (.keep (.keep (.keep (.keep (.keep (.keep (.keep (.keep (.drop (.keep (.keep (.keep (.keep (.keep (.keep (.keep (.keep (.keep (.keep Sub.nil)))))))))))))))))))) (fun v_both_707 p708 => (lb_ifr (lt_w (lw_or (lt_cmp (lc_neT hu dv_it dv_it (dtL (dtT3 dtI dtI dtI)) (evL (evT3 evI evI evI)) (lo_of (lx_call (ok_common fa) (hr.mono (by decide)) fa.g_common fa.F_common.kp fa.b_common (fun _ => (.cons cp_it (.cons cp_it .nil))) (la_cons (lx_var 4 cp_it rfl) (fun p709 => (la_cons (lx_var 5 cp_it rfl) (fun p710 => la_nil)))))) (fun p712 => (lo_of (lx_call (ok__law_region fa) (hr.mono (by decide)) fa.g__law_region fa.F__law_region.kp fa.b__law_region (fun _ => (.cons cp_it .nil)) (la_cons (lx_frz 7 (fz_ls fz_it) rfl) (fun p713 => la_nil))))) (fun _ _ => trivial) (fun _ _ => trivial)) (nomark _)) (fun p715 => (lw_or1 (lt_cmp (lc_neT hu (dv_ls dv_it) dv_it (dtL (dtT3 dtI dtI dtI)) (evL (evT3 evI evI evI)) (lo_of (lx_call (ok_united fa) (hr.mono (by decide)) fa.g_united fa.F_united.kp fa.b_united (fun _ => (.cons cp_it (.cons cp_it .nil))) (la_cons (lx_var 4 cp_it rfl) (fun p716 => (la_cons (lx_var 5 cp_it rfl) (fun p717 => la_nil)))))) (fun p719 => (lo_of (lx_call (ok__law_region fa) (hr.mono (by decide)) fa.g__law_region fa.F__law_region.kp fa.b__law_region (fun _ => (.cons cp_it .nil)) (la_cons (lx_sh (fz_ls fz_it) (lx_cat lm_sh lm_ow (lo_of (lx_var 2 cp_it rfl)) (fun p720 => (lo_of (lx_lc (envT := (fun t722 : Unit => [.st none (List Int) scr a_script, .st none (List Int) (ls (it eI)) p667.2, .st none (List (Int × Int)) (it (eL (eT2 eI eI))) v_one_657, .st none (List (Int × Int)) (it (eL (eT2 eI eI))) v_other_666, .st none (List (Int × Int × Int)) (it (eL (eT3 eI eI eI))) v_left_674, .st none (List (Int × Int × Int)) (it (eL (eT3 eI eI eI))) v_right_678, .st none Str (it eS) v_kept_696, .st none (List (Int × Int)) (it (eL (eT2 eI eI))) v_both_707, .un, .un, .un, .un, .un, .un, .un, .un, .un, .un, .un])) rfl nd (blkOk_by (N := n_law) (sc := defScope s_law) (own := [("cell", 8)]) (by decide +kernel)) (li_list lm_sh.w (lx_var 3 cp_it rfl)) (fun p721 => ()) (fun p721 => (Sub.refl _)) (by intro t i s hm he; simp at hm; subst hm; (have e := Option.some.inj he; exact e.symm)) (fun _ _ _ _ _ t722 => (lg_name 8 nd)) (fun _ _ _ _ _ t722 x723 => (ltl_one (lt_cmp (lc_notInT hu5 dv_it dv_it (dtT2 dtI dtI) (evT2 evI evI) (lo_of (lx_var 8 cp_it rfl)) (fun p724 => (lo_of (lx_var 2 cp_it rfl))) (fun _ _ => trivial) (fun _ _ => trivial)) (by rfl)))) (fun _ _ _ _ _ t722 x723 p725 => (lx_var 8 cp_it rfl)) (fun t722 x723 p725 p726 => ()) (fun t722 x723 p725 p726 => by exact (.keep (.keep (.keep (.keep (.keep (.keep (.keep (.keep (.drop (.keep (.keep (.keep (.keep (.keep (.keep (.keep (.keep (.keep (.keep Sub.nil)))))))))))))))))))) (fun t722 x723 p725 => ()) (fun t722 x723 p725 => by exact (.keep (.keep (.keep (.keep (.keep (.keep (.keep (.keep (.drop (.keep (.keep (.keep (.keep (.keep (.keep (.keep (.keep (.keep (.keep Sub.nil))))))))))))))))))))))) (fun _ _ => trivial) (fun _ _ => trivial))) (fun p732 => la_nil))))) (fun _ _ => trivial) (fun _ _ => trivial)) (nomark _)))) (fun p715 _ => Sub.refl _))) (fun p734 => (lb_ret lx_bl (fun _ => ()) (fun p => (.drop (.drop (.drop (.drop (.drop (.drop (.drop (.drop (.keep (.keep (.keep (.keep (.keep (.keep (.keep (.keep (.keep (.keep (.keep Sub.nil)))))))))))))))))))))) (fun p734 => (lb_ifr (lt_w (lw_or (lt_cmp (lc_neT hu dv_it dv_it (dtL (dtT3 dtI dtI dtI)) (evL (evT3 evI evI evI)) (lo_of (lx_call (ok_less fa) (hr.mono (by decide)) fa.g_less fa.F_less.kp fa.b_less (fun _ => (.cons cp_it (.cons cp_it .nil))) (la_cons (lx_var 4 cp_it rfl) (fun p735 => (la_cons (lx_var 5 cp_it rfl) (fun p736 => la_nil)))))) (fun p738 => (lo_of (lx_call (ok__law_region fa) (hr.mono (by decide)) fa.g__law_region fa.F__law_region.kp fa.b__law_region (fun _ => (.cons cp_it .nil)) (la_cons (lx_sh (fz_ls fz_it) (lx_lc (envT := (fun t740 : Unit => [.st none (List Int) scr a_script, .st none (List Int) (ls (it eI)) p667.2, .st none (List (Int × Int)) (it (eL (eT2 eI eI))) v_one_657, .st none (List (Int × Int)) (it (eL (eT2 eI eI))) v_other_666, .st none (List (Int × Int × Int)) (it (eL (eT3 eI eI eI))) v_left_674, .st none (List (Int × Int × Int)) (it (eL (eT3 eI eI eI))) v_right_678, .st none Str (it eS) v_kept_696, .st none (List (Int × Int)) (it (eL (eT2 eI eI))) v_both_707, .un, .un, .un, .un, .un, .un, .un, .un, .un, .un, .un])) rfl nd (blkOk_by (N := n_law) (sc := defScope s_law) (own := [("cell", 8)]) (by decide +kernel)) (li_list lm_sh.w (lx_var 2 cp_it rfl)) (fun p739 => ()) (fun p739 => (Sub.refl _)) (by intro t i s hm he; simp at hm; subst hm; (have e := Option.some.inj he; exact e.symm)) (fun _ _ _ _ _ t740 => (lg_name 8 nd)) (fun _ _ _ _ _ t740 x741 => (ltl_one (lt_cmp (lc_notInT hu5 dv_it dv_it (dtT2 dtI dtI) (evT2 evI evI) (lo_of (lx_var 8 cp_it rfl)) (fun p742 => (lo_of (lx_var 3 cp_it rfl))) (fun _ _ => trivial) (fun _ _ => trivial)) (by rfl)))) (fun _ _ _ _ _ t740 x741 p743 => (lx_var 8 cp_it rfl)) (fun t740 x741 p743 p744 => ()) (fun t740 x741 p743 p744 => by exact (.keep (.keep (.keep (.keep (.keep (.keep (.keep (.keep (.drop (.keep (.keep (.keep (.keep (.keep (.keep (.keep (.keep (.keep (.keep Sub.nil)))))))))))))))))))) (fun t740 x741 p743 => ()) (fun t740 x741 p743 => by exact (.keep (.keep (.keep (.keep (.keep (.keep (.keep (.keep (.drop (.keep (.keep (.keep (.keep (.keep (.keep (.keep (.keep (.keep (.keep Sub.nil)))))))))))))))))))))) (fun p748 => la_nil))))) (fun _ _ => trivial) (fun _ _ => trivial)) (nomark _)) (fun p750 => (lw_or1 (lt_cmp (lc_neI (lx_call (ok_area fa) (hr.mono (by decide)) fa.g_area fa.F_area.kp fa.b_area (fun _ => (.cons cp_it .nil)) (la_cons (lx_var 4 cp_it rfl) (fun p751 => la_nil))) (fun p753 => (lx_len lm_sh.w fa.z_len (lo_of (lx_var 2 cp_it rfl)) (fun _ => trivial)))) (nomark _)))) (fun p750 _ => Sub.refl _))) (fun p754 => (lb_ret lx_bl (fun _ => ()) (fun p => (.drop (.drop (.drop (.drop (.drop (.drop (.drop (.drop (.keep (.keep (.keep (.keep (.keep (.keep (.keep (.keep (.keep (.keep (.keep Sub.nil)))))))))))))))))))))) (fun p754 => (lb_set 9 nd (lx_sub (lx_callI 1 (ok__law_draw fa) (hr.mono (by decide)) fa.g__law_draw fa.F__law_draw.kp fa.b__law_draw (fun _ => (.cons cp_scr (.cons cp_it .nil))) rfl (la_cons (lx_var 0 cp_scr rfl) (fun p755 => (la_cons lx_int (fun p756 => la_nil)))) (fun _ => rfl)) (fun p758 => lx_int)) (fun v_x_759 p760 => (lb_set 10 nd (lx_sub (lx_callI 1 (ok__law_draw fa) (hr.mono (by decide)) fa.g__law_draw fa.F__law_draw.kp fa.b__law_draw (fun _ => (.cons cp_scr (.cons cp_it .nil))) rfl (la_cons (lx_var 0 cp_scr rfl) (fun p761 => (la_cons lx_int (fun p762 => la_nil)))) (fun _ => rfl)) (fun p764 => lx_int)) (fun v_y_765 p766 => (lb_ifr (lt_cmp (lc_neT hu dv_it dv_it (dtL (dtT3 dtI dtI dtI)) (evL (evT3 evI evI evI)) (lo_of (lx_call (ok_moved fa) (hr.mono (by decide)) fa.g_moved fa.F_moved.kp fa.b_moved (fun _ => (.cons cp_it (.cons cp_it (.cons cp_it .nil)))) (la_cons (lx_var 4 cp_it rfl) (fun p767 => (la_cons (lx_var 9 cp_it rfl) (fun p768 => (la_cons (lx_var 10 cp_it rfl) (fun p769 => la_nil)))))))) (fun p771 => (lo_of (lx_call (ok__law_region fa) (hr.mono (by decide)) fa.g__law_region fa.F__law_region.kp fa.b__law_region (fun _ => (.cons cp_it .nil)) (la_cons (lx_sh (fz_ls fz_it) (lx_lc (envT := (fun t773 : Unit => [.st none (List Int) scr a_script, .st none (List Int) (ls (it eI)) p766.1.2, .st none (List (Int × Int)) (it (eL (eT2 eI eI))) v_one_657, .st none (List (Int × Int)) (it (eL (eT2 eI eI))) v_other_666, .st none (List (Int × Int × Int)) (it (eL (eT3 eI eI eI))) v_left_674, .st none (List (Int × Int × Int)) (it (eL (eT3 eI eI eI))) v_right_678, .st none Str (it eS) v_kept_696, .st none (List (Int × Int)) (it (eL (eT2 eI eI))) v_both_707, .un, .st none Int (it eI) v_x_759, .st none Int (it eI) v_y_765, .un, .un, .un, .un, .un, .un, .un, .un])) rfl nd (blkOk_by (N := n_law) (sc := defScope s_law) (own := [("cell", 8)]) (by decide +kernel)) (li_list lm_sh.w (lx_var 2 cp_it rfl)) (fun p772 => ()) (fun p772 => (Sub.refl _)) (by intro t i s hm he; simp at hm; subst hm; (have e := Option.some.inj he; exact e.symm)) (fun _ _ _ _ _ t773 => (lg_name 8 nd)) (fun _ _ _ _ _ t773 x774 => ltl_nil) (fun _ _ _ _ _ t773 x774 p775 => (lx_tup (la_cons (lx_add (lx_part part2_0 (lx_var 8 cp_it rfl)) (fun p776 => (lx_var 9 cp_it rfl))) (fun p777 => (la_cons (lx_add (lx_part part2_1 (lx_var 8 cp_it rfl)) (fun p778 => (lx_var 10 cp_it rfl))) (fun p779 => la_nil)))) (eT2 eI eI) (fun a : Int × Int × Unit => (a.1, a.2.1)) (fun a => [eI.enc a.1, eI.enc a.2.1]) (fun _ => (.cons (.cons .nil))) (fun _ => rfl))) (fun t773 x774 p775 p780 => ()) (fun t773 x774 p775 p780 => by exact (.keep (.keep (.keep (.keep (.keep (.keep (.keep (.keep (.drop (.keep (.keep (.keep (.keep (.keep (.keep (.keep (.keep (.keep (.keep Sub.nil)))))))))))))))))))) (fun t773 x774 p775 => ()) (fun t773 x774 p775 => by exact (.keep (.keep (.keep (.keep (.keep (.keep (.keep (.keep (.drop (.keep (.keep (.keep (.keep (.keep (.keep (.keep (.keep (.keep (.keep Sub.nil)))))))))))))))))))))) (fun p784 => la_nil))))) (fun _ _ => trivial) (fun _ _ => trivial)) (nomark _)) (fun p786 => (lb_ret lx_bl (fun _ => ()) (fun p => (.drop (.drop (.drop (.drop (.drop (.drop (.drop (.drop (.keep (.drop (.drop (.keep (.keep (.keep (.keep (.keep (.keep (.keep (.keep Sub.nil)))))))))))))))))))))) (fun p786 => (lb_set 11 nd (lx_tup (la_cons (lx_var 9 cp_it rfl) (fun p787 => (la_cons (lx_var 10 cp_it rfl) (fun p788 => (la_cons (lx_callI 1 (ok__law_draw fa) (hr.mono (by decide)) fa.g__law_draw fa.F__law_draw.kp fa.b__law_draw (fun _ => (.cons cp_scr (.cons cp_it .nil))) rfl (la_cons (lx_var 0 cp_scr rfl) (fun p789 => (la_cons lx_int (fun p790 => la_nil)))) (fun _ => rfl)) (fun p792 => la_nil)))))) (eT3 eI eI eI) (fun a : Int × Int × Int × Unit => (a.1, a.2.1, a.2.2.1)) (fun a => [eI.enc a.1, eI.enc a.2.1, eI.enc a.2.2.1]) (fun _ => (.cons (.cons (.cons .nil)))) (fun _ => rfl)) (fun v_place_793 p794 => (lb_ifr (lt_cmp (lc_neT hu dv_it dv_it (dtL (dtT3 dtI dtI dtI)) (evL (evT3 evI evI evI)) (lo_of (lx_call (ok_put fa) (hr.mono (by decide)) fa.g_put fa.F_put.kp fa.b_put (fun _ => (.cons cp_it (.cons cp_it .nil))) (la_cons (lx_var 4 cp_it rfl) (fun p795 => (la_cons (lx_var 11 cp_it rfl) (fun p796 => la_nil)))))) (fun p798 => (lo_of (lx_call (ok__law_region fa) (hr.mono (by decide)) fa.g__law_region fa.F__law_region.kp fa.b__law_region (fun _ => (.cons cp_it .nil)) (la_cons (lx_sh (fz_ls fz_it) (lx_lc (envT := (fun t800 : Unit => [.st none (List Int) scr a_script, .st none (List Int) (ls (it eI)) p794.2.2.1.2, .st none (List (Int × Int)) (it (eL (eT2 eI eI))) v_one_657, .st none (List (Int × Int)) (it (eL (eT2 eI eI))) v_other_666, .st none (List (Int × Int × Int)) (it (eL (eT3 eI eI eI))) v_left_674, .st none (List (Int × Int × Int)) (it (eL (eT3 eI eI eI))) v_right_678, .st none Str (it eS) v_kept_696, .st none (List (Int × Int)) (it (eL (eT2 eI eI))) v_both_707, .un, .st none Int (it eI) v_x_759, .st none Int (it eI) v_y_765, .st none (Int × Int × Int) (it (eT3 eI eI eI)) v_place_793, .un, .un, .un, .un, .un, .un, .un])) rfl nd (blkOk_by (N := n_law) (sc := defScope s_law) (own := [("cell", 8)]) (by decide +kernel)) (li_list lm_sh.w (lx_var 2 cp_it rfl)) (fun p799 => ()) (fun p799 => (Sub.refl _)) (by intro t i s hm he; simp at hm; subst hm; (have e := Option.some.inj he; exact e.symm)) (fun _ _ _ _ _ t800 => (lg_name 8 nd)) (fun _ _ _ _ _ t800 x801 => ltl_nil) (fun _ _ _ _ _ t800 x801 p802 => (lx_call (ok__law_put fa) (hr.mono (by decide)) fa.g__law_put fa.F__law_put.kp fa.b__law_put (fun _ => (.cons cp_it (.cons cp_it .nil))) (la_cons (lx_var 11 cp_it rfl) (fun p803 => (la_cons (lx_var 8 cp_it rfl) (fun p804 => la_nil)))))) (fun t800 x801 p802 p806 => ()) (fun t800 x801 p802 p806 => by exact (.keep (.keep (.keep (.keep (.keep (.keep (.keep (.keep (.drop (.keep (.keep (.keep (.keep (.keep (.keep (.keep (.keep (.keep (.keep Sub.nil)))))))))))))))))))) (fun t800 x801 p802 => ()) (fun t800 x801 p802 => by exact (.keep (.keep (.keep (.keep (.keep (.keep (.keep (.keep (.drop (.keep (.keep (.keep (.keep (.keep (.keep (.keep (.keep (.keep (.keep Sub.nil)))))))))))))))))))))) (fun p810 => la_nil))))) (fun _ _ => trivial) (fun _ _ => trivial)) (nomark _)) (fun p812 => (lb_ret lx_bl (fun _ => ()) (fun p => (.drop (.drop (.drop (.drop (.drop (.drop (.drop (.drop (.keep (.drop (.drop (.drop (.keep (.keep (.keep (.keep (.keep (.keep (.keep Sub.nil)))))))))))))))))))))) (fun p812 => (lb_set 12 nd (lx_as (E' := (eO (eT4 eI eI eI eI) (fun _ h => by cases h))) lx_non (fun _ => none) (fun _ => rfl)) (fun v_due_813 p814 => (lb_if (env1 := (fun j817 : (Option (Int × Int × Int × Int)) => [.st none (List Int) scr a_script, .st none (List Int) (ls (it eI)) p794.2.2.1.2, .st none (List (Int × Int)) (it (eL (eT2 eI eI))) v_one_657, .st none (List (Int × Int)) (it (eL (eT2 eI eI))) v_other_666, .st none (List (Int × Int × Int)) (it (eL (eT3 eI eI eI))) v_left_674, .st none (List (Int × Int × Int)) (it (eL (eT3 eI eI eI))) v_right_678, .st none Str (it eS) v_kept_696, .st none (List (Int × Int)) (it (eL (eT2 eI eI))) v_both_707, .un, .st none Int (it eI) v_x_759, .st none Int (it eI) v_y_765, .st none (Int × Int × Int) (it (eT3 eI eI eI)) v_place_793, .st none (Option (Int × Int × Int × Int)) (it (eO (eT4 eI eI eI eI) (fun _ h => by cases h))) j817, .un, .un, .un, .un, .un, .un])) (lt_cmp (lc_neT hu dv_it (dv_ls dv_it) (dtL (dtT2 dtI dtI)) (evL (evT2 evI evI)) (lo_of (lx_var 2 cp_it rfl)) (fun p815 => (lo_of (lx_list la_nil (eT2 eI eI) (fun _ => []) (fun _ => .nil)))) (fun _ _ => trivial) (fun _ _ => trivial)) (nomark _)) (fun p816 => (lb_setLc (envT := (fun t820 : Unit => [.st none (List Int) scr a_script, .st none (List Int) (ls (it eI)) p794.2.2.1.2, .st none (List (Int × Int)) (it (eL (eT2 eI eI))) v_one_657, .st none (List (Int × Int)) (it (eL (eT2 eI eI))) v_other_666, .st none (List (Int × Int × Int)) (it (eL (eT3 eI eI eI))) v_left_674, .st none (List (Int × Int × Int)) (it (eL (eT3 eI eI eI))) v_right_678, .st none Str (it eS) v_kept_696, .st none (List (Int × Int)) (it (eL (eT2 eI eI))) v_both_707, .un, .st none Int (it eI) v_x_759, .st none Int (it eI) v_y_765, .st none (Int × Int × Int) (it (eT3 eI eI eI)) v_place_793, .st none (Option (Int × Int × Int × Int)) (it (eO (eT4 eI eI eI eI) (fun _ h => by cases h))) v_due_813, .un, .un, .un, .un, .un, .un])) rfl nd (blkOk_by (N := n_law) (sc := defScope s_law) (own := [("cell", 8)]) (by decide +kernel)) 13 (li_list lm_sh.w (lx_var 2 cp_it rfl)) (fun p819 => ()) (fun p819 => (Sub.refl _)) (by intro t i s hm he; simp at hm; subst hm; (have e := Option.some.inj he; exact e.symm)) (fun _ _ _ _ _ t820 => (lg_name 8 nd)) (fun _ _ _ _ _ t820 x821 => ltl_nil) (fun _ _ _ _ _ t820 x821 p822 => (lx_part part2_0 (lx_var 8 cp_it rfl))) (fun t820 x821 p822 p823 => ()) (fun t820 x821 p822 p823 => by exact (.keep (.keep (.keep (.keep (.keep (.keep (.keep (.keep (.drop (.keep (.keep (.keep (.keep (.keep (.keep (.keep (.keep (.keep (.keep Sub.nil)))))))))))))))))))) (fun t820 x821 p822 => ()) (fun t820 x821 p822 => by exact (.keep (.keep (.keep (.keep (.keep (.keep (.keep (.keep (.drop (.keep (.keep (.keep (.keep (.keep (.keep (.keep (.keep (.keep (.keep Sub.nil)))))))))))))))))))) (fun v_xs_827 p828 => (lb_setLc (envT := (fun t830 : Unit => [.st none (List Int) scr a_script, .st none (List Int) (ls (it eI)) p794.2.2.1.2, .st none (List (Int × Int)) (it (eL (eT2 eI eI))) v_one_657, .st none (List (Int × Int)) (it (eL (eT2 eI eI))) v_other_666, .st none (List (Int × Int × Int)) (it (eL (eT3 eI eI eI))) v_left_674, .st none (List (Int × Int × Int)) (it (eL (eT3 eI eI eI))) v_right_678, .st none Str (it eS) v_kept_696, .st none (List (Int × Int)) (it (eL (eT2 eI eI))) v_both_707, .un, .st none Int (it eI) v_x_759, .st none Int (it eI) v_y_765, .st none (Int × Int × Int) (it (eT3 eI eI eI)) v_place_793, .st none (Option (Int × Int × Int × Int)) (it (eO (eT4 eI eI eI eI) (fun _ h => by cases h))) v_due_813, .st none (List Int) (ls (it eI)) v_xs_827, .un, .un, .un, .un, .un])) rfl nd (blkOk_by (N := n_law) (sc := defScope s_law) (own := [("cell", 8)]) (by decide +kernel)) 14 (li_list lm_sh.w (lx_var 2 cp_it rfl)) (fun p829 => ()) (fun p829 => (Sub.refl _)) (by intro t i s hm he; simp at hm; subst hm; (have e := Option.some.inj he; exact e.symm)) (fun _ _ _ _ _ t830 => (lg_name 8 nd)) (fun _ _ _ _ _ t830 x831 => ltl_nil) (fun _ _ _ _ _ t830 x831 p832 => (lx_part part2_1 (lx_var 8 cp_it rfl))) (fun t830 x831 p832 p833 => ()) (fun t830 x831 p832 p833 => by exact (.keep (.keep (.keep (.keep (.keep (.keep (.keep (.keep (.drop (.keep (.keep (.keep (.keep (.keep (.keep (.keep (.keep (.keep (.keep Sub.nil)))))))))))))))))))) (fun t830 x831 p832 => ()) (fun t830 x831 p832 => by exact (.keep (.keep (.keep (.keep (.keep (.keep (.keep (.keep (.drop (.keep (.keep (.keep (.keep (.keep (.keep (.keep (.keep (.keep (.keep Sub.nil)))))))))))))))))))) (fun v_ys_837 p838 => (lb_set 12 nd (lx_as (E' := (eO (eT4 eI eI eI eI) (fun _ h => by cases h))) (lx_tup (la_cons (lx_minI rfl lm_ow.w fa.z_min (lo_var 13 rfl) (fun _ => rfl)) (fun p840 => (la_cons (lx_minI rfl lm_ow.w fa.z_min (lo_var 14 rfl) (fun _ => rfl)) (fun p842 => (la_cons (lx_add (lx_sub (lx_maxI rfl lm_ow.w fa.z_max (lo_var 13 rfl) (fun _ => rfl)) (fun p847 => (lx_minI rfl lm_ow.w fa.z_min (lo_var 13 rfl) (fun _ => rfl)))) (fun p849 => lx_int)) (fun p850 => (la_cons (lx_add (lx_sub (lx_maxI rfl lm_ow.w fa.z_max (lo_var 14 rfl) (fun _ => rfl)) (fun p855 => (lx_minI rfl lm_ow.w fa.z_min (lo_var 14 rfl) (fun _ => rfl)))) (fun p857 => lx_int)) (fun p858 => la_nil)))))))) (eT4 eI eI eI eI) (fun a : Int × Int × Int × Int × Unit => (a.1, a.2.1, a.2.2.1, a.2.2.2.1)) (fun a => [eI.enc a.1, eI.enc a.2.1, eI.enc a.2.2.1, eI.enc a.2.2.2.1]) (fun _ => (.cons (.cons (.cons (.cons .nil))))) (fun _ => rfl)) some (fun _ => rfl)) (fun v_due_859 p860 => (lb_end v_due_859 (.keep (.keep (.keep (.keep (.keep (.keep (.keep (.keep (.keep (.keep (.keep (.keep (.keep (.drop (.drop (.keep (.keep (.keep (.keep Sub.nil))))))))))))))))))))))) (sw_true rfl rfl rfl (by decide +kernel)))) (sw_true rfl rfl rfl (by decide +kernel)))) (fun p816 => (lb_end v_due_813 (Sub.refl _))) (fun j817 => (lb_ifr (lt_w (lw_or (lt_cmp (lc_neS (lx_repr hgd hu dv_it fa.z_repr (lo_of (lx_call (ok_box fa) (hr.mono (by decide)) fa.g_box fa.F_box.kp fa.b_box (fun _ => (.cons cp_it .nil)) (la_cons (lx_var 4 cp_it rfl) (fun p861 => la_nil)))) (fun _ => trivial)) (fun p864 => (lx_repr hgd hu dv_it fa.z_repr (lo_of (lx_var 12 cp_it rfl)) (fun _ => trivial)))) (nomark _)) (fun p866 => (lw_or1 (lt_cmp (lc_notN (lx_call (ok_spans_fault fa) (hr.mono (by decide)) fa.g_spans_fault fa.F_spans_fault.kp fa.b_spans_fault (fun _ => (.cons cp_it .nil)) (la_cons (lx_var 4 cp_it rfl) (fun p867 => la_nil)))) (nomark _)))) (fun p866 _ => Sub.refl _))) (fun p869 => (lb_ret lx_bl (fun _ => ()) (fun p => (.drop (.drop (.drop (.drop (.drop (.drop (.drop (.drop (.keep (.drop (.drop (.drop (.drop (.keep (.keep (.keep (.keep (.keep (.keep Sub.nil)))))))))))))))))))))) (fun p869 => (lb_set 15 nd (lx_listof lm_sh.w fa.z_list (lo_of (lx_var 4 cp_it rfl)) (fun _ => trivial)) (fun v_bent_870 p871 => (lb_if (env1 := (fun j874 : ((List Int) × (List (Int × Int × Int))) => [.st none (List Int) scr a_script, .st none (List Int) (ls (it eI)) j874.1, .st none (List (Int × Int)) (it (eL (eT2 eI eI))) v_one_657, .st none (List (Int × Int)) (it (eL (eT2 eI eI))) v_other_666, .st none (List (Int × Int × Int)) (it (eL (eT3 eI eI eI))) v_left_674, .st none (List (Int × Int × Int)) (it (eL (eT3 eI eI eI))) v_right_678, .st none Str (it eS) v_kept_696, .st none (List (Int × Int)) (it (eL (eT2 eI eI))) v_both_707, .un, .st none Int (it eI) v_x_759, .st none Int (it eI) v_y_765, .st none (Int × Int × Int) (it (eT3 eI eI eI)) v_place_793, .st none (Option (Int × Int × Int × Int)) (it (eO (eT4 eI eI eI eI) (fun _ h => by cases h))) j817, .un, .un, .st none (List (Int × Int × Int)) (ls (it (eT3 eI eI eI))) j874.2, .un, .un, .un])) (lt_cmp (lc_gt (lx_len lm_ow.w fa.z_len (lo_var 15 rfl) (fun _ => rfl)) (fun p872 => lx_int)) (nomark _)) (fun p873 => (lb_set 16 nd (lx_callI 1 (ok__law_draw fa) (hr.mono (by decide)) fa.g__law_draw fa.F__law_draw.kp fa.b__law_draw (fun _ => (.cons cp_scr (.cons cp_it .nil))) rfl (la_cons (lx_var 0 cp_scr rfl) (fun p876 => (la_cons (lx_len lm_ow.w fa.z_len (lo_var 15 rfl) (fun _ => rfl)) (fun p877 => la_nil)))) (fun _ => rfl)) (fun v_at_879 p880 => (lb_set 17 nd (lx_ix lm_ow.w (lo_var 15 rfl) (fun p881 => (lx_var 16 cp_it rfl)) (fun _ _ => rfl)) (fun v_span_883 p884 => (lb_setix 15 (lx_callI 1 (ok__law_pick fa) (hr.mono (by decide)) fa.g__law_pick fa.F__law_pick.kp fa.b__law_pick (fun _ => (.cons cp_scr (.cons cp_it .nil))) rfl (la_cons (lx_var 0 cp_scr rfl) (fun p885 => (la_cons (lx_sh (fz_ls fz_it) (lx_list (la_cons (lx_tup (la_cons (lx_part part3_0 (lx_var 17 cp_it rfl)) (fun p886 => (la_cons (lx_sub (lx_part part3_1 (lx_var 17 cp_it rfl)) (fun p887 => lx_int)) (fun p888 => (la_cons (lx_part part3_2 (lx_var 17 cp_it rfl)) (fun p889 => la_nil)))))) (eT3 eI eI eI) (fun a : Int × Int × Int × Unit => (a.1, a.2.1, a.2.2.1)) (fun a => [eI.enc a.1, eI.enc a.2.1, eI.enc a.2.2.1]) (fun _ => (.cons (.cons (.cons .nil)))) (fun _ => rfl)) (fun p890 => (la_cons (lx_tup (la_cons (lx_part part3_0 (lx_var 17 cp_it rfl)) (fun p891 => (la_cons (lx_part part3_1 (lx_var 17 cp_it rfl)) (fun p892 => (la_cons (lx_add (lx_part part3_2 (lx_var 17 cp_it rfl)) (fun p893 => lx_int)) (fun p894 => la_nil)))))) (eT3 eI eI eI) (fun a : Int × Int × Int × Unit => (a.1, a.2.1, a.2.2.1)) (fun a => [eI.enc a.1, eI.enc a.2.1, eI.enc a.2.2.1]) (fun _ => (.cons (.cons (.cons .nil)))) (fun _ => rfl)) (fun p895 => (la_cons (lx_tup (la_cons (lx_part part3_0 (lx_var 17 cp_it rfl)) (fun p896 => (la_cons (lx_add (lx_part part3_2 (lx_var 17 cp_it rfl)) (fun p897 => lx_int)) (fun p898 => (la_cons (lx_part part3_1 (lx_var 17 cp_it rfl)) (fun p899 => la_nil)))))) (eT3 eI eI eI) (fun a : Int × Int × Int × Unit => (a.1, a.2.1, a.2.2.1)) (fun a => [eI.enc a.1, eI.enc a.2.1, eI.enc a.2.2.1]) (fun _ => (.cons (.cons (.cons .nil)))) (fun _ => rfl)) (fun p900 => (la_cons (lx_tup (la_cons (lx_add (lx_part part3_0 (lx_var 17 cp_it rfl)) (fun p901 => lx_int)) (fun p902 => (la_cons (lx_part part3_1 (lx_var 17 cp_it rfl)) (fun p903 => (la_cons (lx_part part3_2 (lx_var 17 cp_it rfl)) (fun p904 => la_nil)))))) (eT3 eI eI eI) (fun a : Int × Int × Int × Unit => (a.1, a.2.1, a.2.2.1)) (fun a => [eI.enc a.1, eI.enc a.2.1, eI.enc a.2.2.1]) (fun _ => (.cons (.cons (.cons .nil)))) (fun _ => rfl)) (fun p905 => la_nil)))))))) (eT3 eI eI eI) (fun a : (Int × Int × Int) × (Int × Int × Int) × (Int × Int × Int) × (Int × Int × Int) × Unit => [a.1, a.2.1, a.2.2.1, a.2.2.2.1]) (fun _ => (.cons (.cons (.cons (.cons .nil))))))) (fun p906 => la_nil)))) (fun _ => rfl)) (fun _ => rfl) (fun y908 p909 => (lx_var 16 cp_it rfl)) (fun _ _ _ => rfl) (fun y908 p909 j910 p911 z912 => (lb_frz 15 (fz_ls fz_it) rfl (lb_set 15 nd (lx_cat lm_sh lm_ow (lo_of (lx_var 15 cp_it rfl)) (fun p913 => (lo_of (lx_slR lm_sh.w (lx_var 15 cp_it rfl) (fun p914 => (lx_callI 1 (ok__law_draw fa) (hr.mono (by decide)) fa.g__law_draw fa.F__law_draw.kp fa.b__law_draw (fun _ => (.cons cp_scr (.cons cp_it .nil))) rfl (la_cons (lx_var 0 cp_scr rfl) (fun p915 => (la_cons lx_int (fun p916 => la_nil)))) (fun _ => rfl)))))) (fun _ _ => trivial) (fun _ _ => trivial)) (fun v_bent_920 p921 => (lb_end (p921.2.2.2, v_bent_920) (.keep (.keep (.keep (.keep (.keep (.keep (.keep (.keep (.keep (.keep (.keep (.keep (.keep (.keep (.keep (.keep (.drop (.drop (.keep Sub.nil)))))))))))))))))))))))))))))) (fun p873 => (lb_end (p794.2.2.1.2, v_bent_870) (Sub.refl _))) (fun j874 => (lb_ifr (lt_cmp (lc_neS (lx_repr hgd hu dv_it fa.z_repr (lo_of (lx_call (ok_spans_fault fa) (hr.mono (by decide)) fa.g_spans_fault fa.F_spans_fault.kp fa.b_spans_fault (fun _ => (.cons cp_it .nil)) (la_cons (lx_frz 15 (fz_ls fz_it) rfl) (fun p923 => la_nil)))) (fun _ => trivial)) (fun p926 => (lx_repr hgd hu dv_it fa.z_repr (lo_of (lx_call (ok__law_fault fa) (hr.mono (by decide)) fa.g__law_fault fa.F__law_fault.kp fa.b__law_fault (fun _ => (.cons cp_it .nil)) (la_cons (lx_var 15 cp_it rfl) (fun p927 => la_nil)))) (fun _ => trivial)))) (nomark _)) (fun p930 => (lb_ret lx_bl (fun _ => ()) (fun p => (.drop (.drop (.drop (.drop (.drop (.drop (.drop (.drop (.keep (.drop (.drop (.drop (.drop (.keep (.keep (.drop (.keep (.keep (.keep Sub.nil)))))))))))))))))))))) (fun p930 => (lb_set 18 nd (lx_call (ok_united fa) (hr.mono (by decide)) fa.g_united fa.F_united.kp fa.b_united (fun _ => (.cons cp_it (.cons cp_it .nil))) (la_cons (lx_var 4 cp_it rfl) (fun p931 => (la_cons (lx_var 5 cp_it rfl) (fun p932 => la_nil))))) (fun v_found_934 p935 => (lb_asD 18 rfl (lb_app 18 rfl (lx_as (E' := eD) lx_int eI.enc (fun _ => rfl)) (fun _ => rfl) (fun y939 p938 => (lb_ret (lx_cmp (lc_eqS (lx_repr hgd hu (dv_ls dv_it) fa.z_repr (lo_of (lx_list (la_cons (lx_var 4 cp_it rfl) (fun p941 => (la_cons (lx_var 5 cp_it rfl) (fun p942 => la_nil)))) (eL (eT3 eI eI eI)) (fun a : (List (Int × Int × Int)) × (List (Int × Int × Int)) × Unit => [a.1, a.2.1]) (fun _ => (.cons (.cons .nil))))) (fun _ => trivial)) (fun p944 => (lx_var 6 cp_it rfl))) (nomark _)) (fun _ => ()) (fun p => (.drop (.drop (.drop (.drop (.drop (.drop (.drop (.drop (.keep (.drop (.drop (.drop (.drop (.keep (.keep (.drop (.keep (.keep (.drop Sub.nil))))))))))))))))))))))))))))))))))))))))))))))))))))) (sw_true rfl rfl rfl (by decide +kernel)))))))))))))))))
    (by first | (unfold m_law; dsimp only [id]; done) | (unfold m_law; dsimp only [id]; rfl) | rfl)
end
/-! ### regions -/
theorem joint_ok {L : List Sp3} (hv : ∀ s ∈ L, s.2.1 ≤ s.2.2) (hl : L.length ≤ SZ) : ∃ R, m_joint L = some R ∧ Can R ∧ (∀ x y, InS R x y ↔ InS L x y) ∧ R.length ≤ L.length := by
  obtain ⟨a, b, c⟩ := norm_ok hv
  refine ⟨_, ?_, a, b, c⟩
  unfold m_joint
  dsimp only
  rw [Option.bind_some]
  exact forO_grow stepJ SZ stepJ_len _ _ (by rw [sortB_len]; simpa using hl) fun x _ t kc h => stepJ_run h
theorem region_ok {L : List (Int × Int)} (hl : L.length ≤ SZ) : ∃ R, m_region_of L = some R ∧ Can R ∧ (∀ x y, InS R x y ↔ (x, y) ∈ L) ∧ R.length ≤ L.length := by
  obtain ⟨a, b, c⟩ := cells_ok (L := L)
  refine ⟨_, ?_, a, b, c⟩
  unfold m_region_of
  dsimp only
  refine (compO_map (fun c : Int × Int => (c.2, c.1)) () L [] (by simpa using hl) (fun _ _ _ => rfl)).trans ?_
  rw [List.nil_append, Option.bind_some, List.foldl_map]
  exact forO_grow (fun R p => stepJ R (spanOf p)) SZ (fun R p => stepJ_len R _) _ _ (by rw [sortB_len, List.length_map]; simpa using hl) fun x _ t kc h => stepJ_run (x := spanOf x) h
theorem lr_step {Ω : Type} {t : List Sp3} {x : Int × Int} {k : List Sp3 → Option Ω} (hl : t.length + 1 ≤ SZ) (hb : ∀ l, t.getLast? = some l → l.1 = x.1 → l.2.2 ≤ x.2) :
    (if (decide ((0 : Int) < (List.length t : Int))) = true then ((atI t (-(1 : Int))).bind fun y462 =>
      if (decide (y462.1 = x.1)) = true then ((atI t (-(1 : Int))).bind fun y466 =>
      if (decide (y466.2.2 = (x.2 - (1 : Int)))) = true then (
        (atI t (-(1 : Int))).bind fun y474 =>
        (ixN (List.length t) (-(1 : Int))).bind fun n482 => k (List.set t n482 (x.1, y474.2.1, x.2)))
      else (
        if (decide ((List.length t : Int) = (0 : Int))) = true then (if true = true then ck (decide (List.length t < SZ)) (k (t ++ [(x.1, x.2, x.2)])) else k t) else ((atI t (-(1 : Int))).bind fun y486 =>
        if (!decide (y486.1 = x.1)) = true then (if true = true then ck (decide (List.length t < SZ)) (k (t ++ [(x.1, x.2, x.2)])) else k t) else ((atI t (-(1 : Int))).bind fun y490 =>
        if (!decide (y490.2.2 = x.2)) = true then ck (decide (List.length t < SZ)) (k (t ++ [(x.1, x.2, x.2)])) else k t)))) else (if false = true then (
        (atI t (-(1 : Int))).bind fun y474 =>
        (ixN (List.length t) (-(1 : Int))).bind fun n482 => k (List.set t n482 (x.1, y474.2.1, x.2)))
      else (
        if (decide ((List.length t : Int) = (0 : Int))) = true then (if true = true then ck (decide (List.length t < SZ)) (k (t ++ [(x.1, x.2, x.2)])) else k t) else ((atI t (-(1 : Int))).bind fun y486 =>
        if (!decide (y486.1 = x.1)) = true then (if true = true then ck (decide (List.length t < SZ)) (k (t ++ [(x.1, x.2, x.2)])) else k t) else ((atI t (-(1 : Int))).bind fun y490 =>
        if (!decide (y490.2.2 = x.2)) = true then ck (decide (List.length t < SZ)) (k (t ++ [(x.1, x.2, x.2)])) else k t))))) else (if false = true then (
        (atI t (-(1 : Int))).bind fun y474 =>
        (ixN (List.length t) (-(1 : Int))).bind fun n482 => k (List.set t n482 (x.1, y474.2.1, x.2)))
      else (
        if (decide ((List.length t : Int) = (0 : Int))) = true then (if true = true then ck (decide (List.length t < SZ)) (k (t ++ [(x.1, x.2, x.2)])) else k t) else ((atI t (-(1 : Int))).bind fun y486 =>
        if (!decide (y486.1 = x.1)) = true then (if true = true then ck (decide (List.length t < SZ)) (k (t ++ [(x.1, x.2, x.2)])) else k t) else ((atI t (-(1 : Int))).bind fun y490 =>
        if (!decide (y490.2.2 = x.2)) = true then ck (decide (List.length t < SZ)) (k (t ++ [(x.1, x.2, x.2)])) else k t))))) = k (stepJ t (spanOf x)) := by
  rw [decide_eq_true (show t.length < SZ by omega)]
  simp only [ck_true]
  unfold stepJ spanOf
  rcases List.eq_nil_or_concat t with e | ⟨R', l, e⟩
  · subst e; rfl
  · subst e
    rw [List.concat_eq_append] at hb ⊢
    have hb' := hb l (by simp)
    rw [show (R' ++ [l]).getLast? = some l by simp, show (R' ++ [l]).dropLast = R' by simp, if_pos (decide_eq_true (show (0 : Int) < ((R' ++ [l]).length : Int) by rw [List.length_append, List.length_singleton]; omega)), Z.atI_last, ixN_last]
    have nz : decide (((R' ++ [l]).length : Int) = (0 : Int)) = false := decide_eq_false (by rw [List.length_append, List.length_singleton]; omega)
    rw [nz]
    simp only [Option.bind_some, set_last, Bool.false_eq_true, if_false, if_true]
    by_cases c : l.1 = x.1
    · have b := hb' c
      rw [decide_eq_true c]
      simp only [if_true, Bool.not_true, Bool.false_eq_true, if_false]
      by_cases d : l.2.2 = x.2 - 1
      · rw [decide_eq_true d, if_pos rfl, if_pos ⟨c, by omega⟩]
        rw [show max l.2.2 x.2 = x.2 by omega]
      · rw [decide_eq_false d]
        simp only [Bool.false_eq_true, if_false]
        by_cases f : l.2.2 = x.2
        · rw [decide_eq_true f]
          simp only [Bool.not_true, Bool.false_eq_true, if_false]
          rw [if_pos ⟨c, by omega⟩, show max l.2.2 x.2 = l.2.2 by omega, ← c]
        · rw [decide_eq_false f]
          simp only [Bool.not_false, if_true]
          rw [if_neg (fun z => by omega)]
    · rw [decide_eq_false c]
      simp only [Bool.not_false, if_true, Bool.false_eq_true, if_false]
      rw [if_neg (fun z => c z.1)]
theorem lr_last {R : List Sp3} {p q : Int × Int} (h : p.1 < q.1 ∨ (p.1 = q.1 ∧ p.2 ≤ q.2)) (hb : ∀ l, R.getLast? = some l → l.1 = p.1 → l.2.2 ≤ p.2) : ∀ l, (stepJ R (spanOf p)).getLast? = some l → l.1 = q.1 → l.2.2 ≤ q.2 := by
  intro l hl e
  unfold stepJ spanOf at hl
  rcases List.eq_nil_or_concat R with z | ⟨R', u, z⟩
  · subst z; simp at hl; subst hl; dsimp only at e ⊢; omega
  · subst z
    rw [List.concat_eq_append] at hb hl
    have hb' := hb u (by simp)
    rw [show (R' ++ [u]).getLast? = some u by simp] at hl
    dsimp only at hl
    split at hl
    · rename_i c
      simp at hl; subst hl
      have := hb' c.1
      dsimp only at e ⊢; omega
    · simp at hl; subst hl
      dsimp only at e ⊢; omega
theorem lr_loop {Ω : Type} {b : Int × Int → List Sp3 → (List Sp3 → Option Ω) → Option Ω} {k : List Sp3 → Option Ω} (hb : ∀ x t kc, t.length + 1 ≤ SZ → (∀ l, t.getLast? = some l → l.1 = x.1 → l.2.2 ≤ x.2) → b x t kc = kc (stepJ t (spanOf x))) :
    ∀ (L : List (Int × Int)) (R : List Sp3), R.length + L.length ≤ SZ → L.Pairwise (fun s t => s.1 < t.1 ∨ (s.1 = t.1 ∧ s.2 ≤ t.2)) → (∀ p ∈ L, ∀ l, R.getLast? = some l → l.1 = p.1 → l.2.2 ≤ p.2) → forO L R b k = k (L.foldl (fun R p => stepJ R (spanOf p)) R)
  | [], R, _, _, _ => rfl
  | p :: L, R, hl, hp, hR => by
    rw [List.length_cons] at hl
    have hp' := List.pairwise_cons.1 hp
    refine (hb p R _ (by omega) (hR p (List.mem_cons_self ..))).trans ?_
    have := stepJ_len R (spanOf p)
    exact lr_loop hb L _ (by omega) hp'.2 fun q mq => lr_last (hp'.1 q mq) (hR p (List.mem_cons_self ..))
theorem lregion_ok {L : List (Int × Int)} (hl : L.length ≤ SZ) : ∃ R, m__law_region L = some R ∧ Can R ∧ (∀ x y, InS R x y ↔ (x, y) ∈ L) ∧ R.length ≤ L.length := by
  obtain ⟨a, b, c⟩ := cells_ok (L := L)
  refine ⟨_, ?_, a, b, c⟩
  unfold m__law_region
  dsimp only
  refine (compO_map (fun c : Int × Int => (c.2, c.1)) () L [] (by simpa using hl) (fun _ _ _ => rfl)).trans ?_
  rw [List.nil_append, Option.bind_some, List.foldl_map]
  exact lr_loop (fun x t kc h1 h2 => lr_step h1 h2) _ _ (by rw [sortB_len, List.length_map]; simpa using hl) (sort2_pw _) fun p _ l z => by simp at z
theorem len_sub : ∀ {α : Type} [DecidableEq α] {A L : List α}, A.Nodup → (∀ a ∈ A, a ∈ L) → A.length ≤ L.length
  | α, _, [], L, _, _ => Nat.zero_le _
  | α, _, a :: A, L, nd, h => by
    rw [List.nodup_cons] at nd
    have ha := h a (List.mem_cons_self ..)
    have := len_sub (A := A) (L := L.erase a) nd.2 fun b m => (List.mem_erase_of_ne (fun z => nd.1 (by rw [← z]; exact m))).2 (h b (List.mem_cons_of_mem _ m))
    rw [List.length_erase_of_mem ha] at this
    have hp := List.length_pos_of_mem ha
    rw [List.length_cons]; omega
theorem Can.count {R : List Sp3} {L : List (Int × Int)} (h : Can R) (hs : ∀ x y, InS R x y → (x, y) ∈ L) : R.length ≤ L.length := by
  have nd : (R.map fun s => (s.2.1, s.1)).Nodup := by
    rw [List.Nodup, List.pairwise_map]
    refine h.2.imp_of_mem fun {s t} ms mt q z => ?_
    rw [Prod.mk.injEq] at z
    have v := h.1 s ms
    omega
  have := len_sub nd fun p mp => by
    obtain ⟨s, ms, rfl⟩ := List.mem_map.1 mp
    exact hs s.2.1 s.1 ⟨s, ms, rfl, Int.le_refl _, h.1 s ms⟩
  simpa using this
theorem united_ok {A B : List Sp3} (ha : ∀ s ∈ A, s.2.1 ≤ s.2.2) (hb : ∀ s ∈ B, s.2.1 ≤ s.2.2) (hl : A.length + B.length ≤ SZ) : ∃ R, m_united A B = some R ∧ Can R ∧ ∀ x y, InS R x y ↔ InS A x y ∨ InS B x y := by
  obtain ⟨R, e, c, i, _⟩ := joint_ok (L := A ++ B) (fun s m => (List.mem_append.1 m).elim (ha s) (hb s)) (by simpa using hl)
  refine ⟨R, ?_, c, fun x y => by rw [i, InS.app]⟩
  unfold m_united
  dsimp only
  rw [decide_eq_true hl, ck_true, e]; rfl
def comF (s u : Sp3) : List Sp3 := if u.1 = s.1 ∧ u.2.1 ≤ s.2.2 ∧ s.2.1 ≤ u.2.2 then [(s.1, max s.2.1 u.2.1, min s.2.2 u.2.2)] else []
theorem common_ok {A B : List Sp3} (ha : ∀ s ∈ A, s.2.1 ≤ s.2.2) (hb : ∀ s ∈ B, s.2.1 ≤ s.2.2) (hl : A.length * B.length ≤ SZ) : ∃ R, m_common A B = some R ∧ Can R ∧ ∀ x y, InS R x y ↔ InS A x y ∧ InS B x y := by
  have mem : ∀ t : Sp3, t ∈ A.flatMap (fun s => B.flatMap fun u => comF s u) ↔ ∃ s ∈ A, ∃ u ∈ B, (u.1 = s.1 ∧ u.2.1 ≤ s.2.2 ∧ s.2.1 ≤ u.2.2) ∧ t = (s.1, max s.2.1 u.2.1, min s.2.2 u.2.2) := fun t => by
    simp only [List.mem_flatMap, comF]
    constructor
    · rintro ⟨s, ms, u, mu, h⟩
      split at h
      · rename_i c
        exact ⟨s, ms, u, mu, c, List.mem_singleton.1 h⟩
      · cases h
    · rintro ⟨s, ms, u, mu, c, rfl⟩
      exact ⟨s, ms, u, mu, by rw [if_pos c]; exact List.mem_singleton.2 rfl⟩
  have one : ∀ s u, (comF s u).length ≤ 1 := fun s u => by unfold comF; split <;> simp
  have inner : ∀ (s : Sp3) (t : List Sp3), (t.flatMap fun u => comF s u).length ≤ t.length := fun s t => by
    induction t with
    | nil => simp
    | cons u t ih => have := one s u; simp only [List.flatMap_cons, List.length_append, List.length_cons]; omega
  have outer : ∀ t : List Sp3, (t.flatMap fun s => B.flatMap fun u => comF s u).length ≤ t.length * B.length := fun t => by
    induction t with
    | nil => simp
    | cons s t ih => have := inner s B; simp only [List.flatMap_cons, List.length_append, List.length_cons, Nat.add_mul, Nat.one_mul]; omega
  obtain ⟨R, e, c, i, _⟩ := joint_ok (L := A.flatMap (fun s => B.flatMap fun u => comF s u)) (fun t m => by
    obtain ⟨s, ms, u, mu, q, rfl⟩ := (mem t).1 m
    have := ha s ms
    have := hb u mu
    dsimp only; omega) (Nat.le_trans (outer A) hl)
  refine ⟨R, ?_, c, fun x y => ?_⟩
  · unfold m_common
    dsimp only
    refine (forO_cat (fun s => B.flatMap fun u => comF s u) B.length SZ A [] (by simpa using hl) fun s ms => ⟨inner s B, fun t kc ht => ?_⟩).trans ?_
    · refine forO_cat (fun u => comF s u) 1 SZ B t (by omega) fun u mu => ⟨one s u, fun t kc ht => ?_⟩
      rw [decide_eq_true (show t.length < SZ by omega)]
      simp only [ck_true]
      unfold comF
      by_cases c1 : u.1 = s.1
      · rw [if_pos (decide_eq_true c1)]
        by_cases c2 : u.2.1 ≤ s.2.2
        · rw [if_pos (decide_eq_true c2)]
          by_cases c3 : s.2.1 ≤ u.2.2
          · rw [if_pos (decide_eq_true c3), if_pos ⟨c1, c2, c3⟩]
          · rw [if_neg (show ¬ (decide (s.2.1 ≤ u.2.2) = true) from fun z => c3 (of_decide_eq_true z)), if_neg (fun z => c3 z.2.2), List.append_nil]
        · rw [if_neg (show ¬ (decide (u.2.1 ≤ s.2.2) = true) from fun z => c2 (of_decide_eq_true z)), if_neg (show ¬ (false = true) by decide), if_neg (fun z => c2 z.2.1), List.append_nil]
      · rw [if_neg (show ¬ (decide (u.1 = s.1) = true) from fun z => c1 (of_decide_eq_true z)), if_neg (show ¬ (false = true) by decide), if_neg (fun z => c1 z.1), List.append_nil]
    · rw [List.nil_append, e]; rfl
  · rw [i]
    constructor
    · rintro ⟨t, m, q⟩
      obtain ⟨s, ms, u, mu, w, rfl⟩ := (mem t).1 m
      dsimp only at q
      exact ⟨⟨s, ms, by omega, by omega, by omega⟩, ⟨u, mu, by omega, by omega, by omega⟩⟩
    · rintro ⟨⟨s, ms, q⟩, ⟨u, mu, w⟩⟩
      exact ⟨_, (mem _).2 ⟨s, ms, u, mu, ⟨by omega, by omega, by omega⟩, rfl⟩, by dsimp only; omega, by dsimp only; omega, by dsimp only; omega⟩
theorem forO_meas {α S Ω : Type} (ms : S → Nat) (g : S → α → S) (N : Nat) (hg : ∀ s x, ms (g s x) ≤ ms s + 1) {b : α → S → (S → Option Ω) → Option Ω} {k : S → Option Ω} : ∀ (xs : List α) (s : S), ms s + xs.length ≤ N →
    (∀ x ∈ xs, ∀ s kc, ms s + 1 ≤ N → b x s kc = kc (g s x)) → forO xs s b k = k (xs.foldl g s)
  | [], s, _, _ => rfl
  | x :: xs, s, hl, h => by
    rw [List.length_cons] at hl
    refine (h x (List.mem_cons_self ..) s _ (by omega)).trans ?_
    have := hg s x
    exact forO_meas ms g N hg xs (g s x) (by omega) fun y m => h y (List.mem_cons_of_mem _ m)
def stepL (s : Sp3) (st : List Sp3 × Int) (u : Sp3) : List Sp3 × Int :=
  if u.1 = s.1 ∧ u.2.1 ≤ s.2.2 ∧ st.2 ≤ u.2.2 then ((if st.2 < u.2.1 then st.1 ++ [(s.1, st.2, u.2.1 - 1)] else st.1), max st.2 (u.2.2 + 1)) else st
theorem stepL_app (s : Sp3) (T : List Sp3) : ∀ (us : List Sp3) (N : List Sp3) (st : Int), us.foldl (stepL s) (T ++ N, st) = (T ++ (us.foldl (stepL s) (N, st)).1, (us.foldl (stepL s) (N, st)).2)
  | [], N, st => rfl
  | u :: us, N, st => by
    have e : stepL s (T ++ N, st) u = (T ++ (stepL s (N, st) u).1, (stepL s (N, st) u).2) := by
      unfold stepL
      dsimp only
      split
      · split <;> simp
      · rfl
    rw [List.foldl_cons, List.foldl_cons, e]
    exact stepL_app s T us _ _
structure InvL (s : Sp3) (pre N : List Sp3) (st : Int) : Prop where
  v : ∀ t ∈ N, t.1 = s.1 ∧ t.2.1 ≤ t.2.2
  lo : s.2.1 ≤ st
  is : ∀ x, InS N x s.1 ↔ (s.2.1 ≤ x ∧ x < st ∧ x ≤ s.2.2 ∧ ¬ InS pre x s.1)
  up : ∀ x, x ≤ s.2.2 → InS pre x s.1 → x < st
  at_ : st = s.2.1 ∨ ∃ u ∈ pre, u.1 = s.1 ∧ st = u.2.2 + 1
theorem invL_step {s u : Sp3} {pre us N : List Sp3} {st : Int} (hc : Can (pre ++ u :: us)) (h : InvL s pre N st) : InvL s (pre ++ [u]) (stepL s (N, st) u).1 (stepL s (N, st) u).2 := by
  have vu := hc.1 u (by simp)
  have bef : ∀ w ∈ pre, w.1 < u.1 ∨ (w.1 = u.1 ∧ w.2.2 + 1 < u.2.1) := fun w mw => (List.pairwise_append.1 hc.2).2.2 w mw u (by simp)
  have pin : ∀ x, InS (pre ++ [u]) x s.1 ↔ InS pre x s.1 ∨ (u.1 = s.1 ∧ u.2.1 ≤ x ∧ x ≤ u.2.2) := fun x => by
    rw [InS.app, InS.cons]
    exact ⟨fun z => z.imp id fun w => w.elim id fun q => absurd q InS.nil, fun z => z.imp id .inl⟩
  have low := h.lo
  have at1 : u.1 = s.1 → st = s.2.1 ∨ st < u.2.1 := fun e => by
    rcases h.at_ with q | ⟨w, mw, e1, e2⟩
    · exact .inl q
    · have := bef w mw
      exact .inr (by omega)
  unfold stepL
  dsimp only
  by_cases c : u.1 = s.1 ∧ u.2.1 ≤ s.2.2 ∧ st ≤ u.2.2
  · rw [if_pos c]
    have a := at1 c.1
    have em : max st (u.2.2 + 1) = u.2.2 + 1 := by omega
    dsimp only
    rw [em]
    refine ⟨fun t m => ?_, by omega, fun x => ?_, fun x hx hp => ?_, .inr ⟨u, by simp, c.1, rfl⟩⟩
    · split at m
      · rcases List.mem_append.1 m with m | m
        · exact h.v t m
        · rw [List.mem_singleton] at m; subst m; exact ⟨rfl, by dsimp only; omega⟩
      · exact h.v t m
    · rw [pin]
      have hx := h.is x
      have hu := h.up x
      have e2 : InS (if st < u.2.1 then N ++ [(s.1, st, u.2.1 - 1)] else N) x s.1 ↔ InS N x s.1 ∨ (st < u.2.1 ∧ st ≤ x ∧ x ≤ u.2.1 - 1) := by
        split
        · rename_i z
          rw [InS.app, InS.cons]
          exact ⟨fun q => q.imp id fun w => w.elim (fun r => ⟨z, r.2⟩) fun r => absurd r InS.nil, fun q => q.imp id fun w => .inl ⟨rfl, w.2⟩⟩
        · rename_i z
          exact ⟨.inl, fun q => q.elim id fun w => absurd w.1 z⟩
      rw [e2, hx]
      by_cases p : InS pre x s.1
      · have := fun q => hu q p
        constructor
        · rintro (⟨_, _, _, w⟩ | w)
          · exact absurd p w
          · omega
        · rintro ⟨_, _, _, w⟩
          exact absurd (.inl p) w
      · constructor
        · rintro (⟨w1, w2, w3, _⟩ | w)
          · exact ⟨w1, by omega, w3, fun z => z.elim p fun q => by omega⟩
          · exact ⟨by omega, by omega, by omega, fun z => z.elim p fun q => by omega⟩
        · rintro ⟨w1, w2, w3, w4⟩
          have w5 : ¬ (u.2.1 ≤ x ∧ x ≤ u.2.2) := fun q => w4 (.inr ⟨c.1, q⟩)
          by_cases z : x < st
          · exact .inl ⟨w1, z, w3, p⟩
          · exact .inr (by omega)
    · rcases (pin x).1 hp with q | q
      · have := h.up x hx q; omega
      · omega
  · rw [if_neg c]
    dsimp only
    refine ⟨h.v, low, fun x => ?_, fun x hx hp => ?_, h.at_.imp id fun ⟨w, mw, e⟩ => ⟨w, by simp [mw], e⟩⟩
    · rw [h.is x, pin]
      constructor
      · rintro ⟨w1, w2, w3, w4⟩
        refine ⟨w1, w2, w3, fun z => z.elim w4 fun q => ?_⟩
        have := at1 q.1
        omega
      · rintro ⟨w1, w2, w3, w4⟩
        exact ⟨w1, w2, w3, fun z => w4 (.inl z)⟩
    · rcases (pin x).1 hp with q | q
      · exact h.up x hx q
      · omega
theorem invL_all {s : Sp3} : ∀ (us pre N : List Sp3) (st : Int), Can (pre ++ us) → InvL s pre N st → InvL s (pre ++ us) (us.foldl (stepL s) (N, st)).1 (us.foldl (stepL s) (N, st)).2
  | [], pre, N, st, _, h => by rw [List.append_nil]; exact h
  | u :: us, pre, N, st, hc, h => by
    have := invL_all us (pre ++ [u]) (stepL s (N, st) u).1 (stepL s (N, st) u).2 (by rw [List.append_assoc]; exact hc) (invL_step hc h)
    rw [List.append_assoc] at this
    exact this
def lessN (B : List Sp3) (s : Sp3) : List Sp3 := (B.foldl (stepL s) ([], s.2.1)).1 ++ (if (B.foldl (stepL s) ([], s.2.1)).2 ≤ s.2.2 then [(s.1, (B.foldl (stepL s) ([], s.2.1)).2, s.2.2)] else [])
theorem stepL_len (s : Sp3) (st : List Sp3 × Int) (u : Sp3) : (stepL s st u).1.length ≤ st.1.length + 1 := by
  unfold stepL
  split
  · dsimp only; split <;> simp
  · omega
theorem foldL_len (s : Sp3) : ∀ (us : List Sp3) (st : List Sp3 × Int), (us.foldl (stepL s) st).1.length ≤ st.1.length + us.length
  | [], st => by simp
  | u :: us, st => by
    have h1 := stepL_len s st u
    have h2 := foldL_len s us (stepL s st u)
    rw [List.foldl_cons, List.length_cons]; omega
theorem lessN_ok {B : List Sp3} {s : Sp3} (hB : Can B) (x y : Int) : InS (lessN B s) x y ↔ (s.1 = y ∧ s.2.1 ≤ x ∧ x ≤ s.2.2) ∧ ¬ InS B x y := by
  have h := invL_all (s := s) B [] [] s.2.1 hB ⟨fun _ m => (nomatch m), Int.le_refl _, fun x => ⟨fun q => absurd q InS.nil, fun q => by omega⟩, fun x _ q => absurd q InS.nil, .inl rfl⟩
  rw [List.nil_append] at h
  unfold lessN
  have e : InS (if (B.foldl (stepL s) ([], s.2.1)).2 ≤ s.2.2 then [(s.1, (B.foldl (stepL s) ([], s.2.1)).2, s.2.2)] else []) x y ↔ s.1 = y ∧ (B.foldl (stepL s) ([], s.2.1)).2 ≤ x ∧ x ≤ s.2.2 := by
    split
    · rw [InS.cons]
      exact ⟨fun z => z.elim id fun q => absurd q InS.nil, .inl⟩
    · exact ⟨fun q => absurd q InS.nil, fun q => by omega⟩
  rw [InS.app, e]
  have low := h.lo
  constructor
  · rintro (⟨t, m, q⟩ | q)
    · have ht := h.v t m
      have hy : s.1 = y := by omega
      subst hy
      have := (h.is x).1 ⟨t, m, q⟩
      exact ⟨⟨rfl, this.1, this.2.2.1⟩, this.2.2.2⟩
    · obtain ⟨rfl, a, b⟩ := q
      refine ⟨⟨rfl, by omega, b⟩, fun z => ?_⟩
      have := h.up x b z; omega
  · rintro ⟨⟨rfl, a, b⟩, c⟩
    by_cases z : x < (B.foldl (stepL s) ([], s.2.1)).2
    · exact .inl ((h.is x).2 ⟨a, z, b, c⟩)
    · exact .inr ⟨rfl, by omega, b⟩
theorem lessN_v {B : List Sp3} {s : Sp3} (hB : Can B) : ∀ t ∈ lessN B s, t.2.1 ≤ t.2.2 := by
  have h := invL_all (s := s) B [] [] s.2.1 hB ⟨fun _ m => (nomatch m), Int.le_refl _, fun x => ⟨fun q => absurd q InS.nil, fun q => by omega⟩, fun x _ q => absurd q InS.nil, .inl rfl⟩
  intro t m
  unfold lessN at m
  rcases List.mem_append.1 m with m | m
  · exact (h.v t m).2
  · split at m
    · rename_i z
      rw [List.mem_singleton] at m; subst m; exact z
    · cases m
theorem less_ok {A B : List Sp3} (hB : Can B) (hl : A.length * (B.length + 1) ≤ SZ) : ∃ R, m_less A B = some R ∧ Can R ∧ ∀ x y, InS R x y ↔ InS A x y ∧ ¬ InS B x y := by
  have one : ∀ s, (lessN B s).length ≤ B.length + 1 := fun s => by
    have := foldL_len s B ([], s.2.1)
    unfold lessN
    rw [List.length_append]
    split
    · rw [List.length_singleton]; simp only [List.length_nil] at this; omega
    · simp only [List.length_nil] at this ⊢; omega
  have outer : ∀ t : List Sp3, (t.flatMap (lessN B)).length ≤ t.length * (B.length + 1) := fun t => by
    induction t with
    | nil => simp
    | cons s t ih => have := one s; rw [List.flatMap_cons, List.length_append, List.length_cons, Nat.add_mul, Nat.one_mul]; omega
  obtain ⟨R, e, c, i, _⟩ := joint_ok (L := A.flatMap (lessN B)) (fun t m => by
    obtain ⟨s, _, m⟩ := List.mem_flatMap.1 m
    exact lessN_v hB t m) (Nat.le_trans (outer A) hl)
  refine ⟨R, ?_, c, fun x y => ?_⟩
  · unfold m_less
    dsimp only
    refine (forO_cat (lessN B) (B.length + 1) SZ A [] (by simpa using hl) fun s ms => ⟨one s, fun t kc ht => ?_⟩).trans ?_
    · refine (forO_meas (fun st : List Sp3 × Int => st.1.length) (stepL s) SZ (stepL_len s) B (t, s.2.1) (by dsimp only; omega) fun u mu st kc hst => ?_).trans ?_
      · rw [decide_eq_true (show st.1.length < SZ by omega)]
        simp only [ck_true]
        unfold stepL
        by_cases c1 : u.1 = s.1
        · rw [if_pos (decide_eq_true c1)]
          by_cases c2 : u.2.1 ≤ s.2.2
          · rw [if_pos (decide_eq_true c2)]
            by_cases c3 : st.2 ≤ u.2.2
            · rw [if_pos (decide_eq_true c3), if_pos (show u.1 = s.1 ∧ u.2.1 ≤ s.2.2 ∧ st.2 ≤ u.2.2 from ⟨c1, c2, c3⟩)]
              by_cases c4 : st.2 < u.2.1
              · rw [if_pos (show decide (st.2 < u.2.1) = true from decide_eq_true c4), if_pos c4]
              · rw [if_neg (show ¬ (decide (st.2 < u.2.1) = true) from fun z => c4 (of_decide_eq_true z)), if_neg c4]
            · rw [if_neg (show ¬ (decide (st.2 ≤ u.2.2) = true) from fun z => c3 (of_decide_eq_true z)), if_neg (fun z => c3 z.2.2)]
          · rw [if_neg (show ¬ (decide (u.2.1 ≤ s.2.2) = true) from fun z => c2 (of_decide_eq_true z)), if_neg (show ¬ (false = true) by decide), if_neg (fun z => c2 z.2.1)]
        · rw [if_neg (show ¬ (decide (u.1 = s.1) = true) from fun z => c1 (of_decide_eq_true z)), if_neg (show ¬ (false = true) by decide), if_neg (fun z => c1 z.1)]
      · have ea := stepL_app s t B [] s.2.1
        rw [List.append_nil] at ea
        rw [ea]
        dsimp only
        have fl := foldL_len s B ([], s.2.1)
        simp only [List.length_nil] at fl
        rw [decide_eq_true (show (t ++ (B.foldl (stepL s) ([], s.2.1)).1).length < SZ by rw [List.length_append]; omega), ck_true]
        unfold lessN
        by_cases z : (B.foldl (stepL s) ([], s.2.1)).2 ≤ s.2.2
        · rw [if_pos (decide_eq_true z), if_pos z, List.append_assoc]
        · rw [if_neg (show ¬ (decide ((B.foldl (stepL s) ([], s.2.1)).2 ≤ s.2.2) = true) from fun w => z (of_decide_eq_true w)), if_neg z, List.append_nil]
    · rw [List.nil_append, e]; rfl
  · rw [i]
    constructor
    · rintro ⟨t, m, q⟩
      obtain ⟨s, ms, m⟩ := List.mem_flatMap.1 m
      have := (lessN_ok hB x y).1 ⟨t, m, q⟩
      exact ⟨⟨s, ms, this.1⟩, this.2⟩
    · rintro ⟨⟨s, ms, q⟩, nb⟩
      obtain ⟨t, m, w⟩ := (lessN_ok (s := s) hB x y).2 ⟨q, nb⟩
      exact ⟨t, List.mem_flatMap.2 ⟨s, ms, m⟩, w⟩
/-! ### the text of a region -/
theorem reg_show {R : List Sp3} (hb : ∀ s ∈ R, s.1.natAbs < 10 ^ 12 ∧ s.2.1.natAbs < 10 ^ 12 ∧ s.2.2.natAbs < 10 ^ 12) (hl : R.length ≤ 1000) : showOk ((eL (eT3 eI eI eI)).enc R) = true := by
  have lg : ∀ i : Int, i.natAbs < 10 ^ 12 → i.natAbs.log2 < 1920 := fun i h => by
    by_cases z : i.natAbs = 0
    · rw [z]; decide
    · exact (Nat.log2_lt z).2 (Nat.lt_of_lt_of_le h (by decide +kernel))
  have sh : ∀ T : List Sp3, (∀ s ∈ T, s.1.natAbs < 10 ^ 12 ∧ s.2.1.natAbs < 10 ^ 12 ∧ s.2.2.natAbs < 10 ^ 12) → PyData.showableAll (T.map (eT3 eI eI eI).enc) = true ∧ PyData.leavesShortAll 13 (T.map (eT3 eI eI eI).enc) = true ∧ PyData.bulkAll (T.map (eT3 eI eI eI).enc) = 4 * T.length := by
    intro T
    induction T with
    | nil => intro _; exact ⟨by rw [List.map_nil, PyData.showableAll], by rw [List.map_nil, PyData.leavesShortAll], by rw [List.map_nil, PyData.bulkAll]; rfl⟩
    | cons s T ih =>
      intro h
      obtain ⟨i1, i2, i3⟩ := ih fun t m => h t (List.mem_cons_of_mem _ m)
      obtain ⟨h1, h2, h3⟩ := h s (List.mem_cons_self ..)
      have e : (eT3 eI eI eI).enc s = .tuple [.int s.1, .int s.2.1, .int s.2.2] := rfl
      rw [List.map_cons, e]
      refine ⟨?_, ?_, ?_⟩
      · rw [PyData.showableAll, i1]
        simp [PyData.showable, PyData.showableAll, lg _ h1, lg _ h2, lg _ h3]
      · rw [PyData.leavesShortAll, i2]
        simp [PyData.leavesShort, PyData.leavesShortAll, PyData.shown_int_le h1, PyData.shown_int_le h2, PyData.shown_int_le h3]
      · rw [PyData.bulkAll, i3]
        simp [PyData.bulk, PyData.bulkAll]
        omega
  obtain ⟨a, b, c⟩ := sh R hb
  have e : (eL (eT3 eI eI eI)).enc R = .list (R.map (eT3 eI eI eI).enc) := rfl
  have d1 := (dtL (dtT3 dtI dtI dtI)).lay R
  have d2 := (dtL (dtT3 dtI dtI dtI)).dep R
  have d3 : ((eL (eT3 eI eI eI)).enc R).shown.length ≤ sizeLine := PyData.shown_fits_bulk (B := 13) (by decide) (by decide) (by rw [e, PyData.leavesShort]; exact b) (by
    rw [e, PyData.bulk, c]
    have : (4000 : Nat) ≤ 2 ^ 20 := by decide
    omega)
  unfold showOk
  rw [d1, decide_eq_true d3, decide_eq_true (show ((eL (eT3 eI eI eI)).enc R).depth ≤ 60 from Nat.le_trans d2 (by decide)), e, PyData.showable, a]
  rfl
/-! ### the law -/
theorem eq_can {R S : List Sp3} (hR : Can R) (hS : Can S) (h : ∀ x y, InS R x y ↔ InS S x y) : (!decide (R = S)) = false := by
  rw [decide_eq_true (Can.uniq hR hS h)]; rfl
/-! ### turning and mirroring in plain words -/
def cellF (w : Nat) (x y : Int) : Int × Int := match w with
  | 0 => (x, y) | 1 => (-1 - y, x) | 2 => (-1 - x, -1 - y) | 3 => (y, -1 - x)
  | 4 => (-1 - x, y) | 5 => (-1 - y, -1 - x) | 6 => (x, -1 - y) | _ => (y, x)
theorem pcell {w : Nat} (h : w < 8) (l o x y : Int) : m_placed_cell (l, o, (w : Int)) x y = some ((cellF w x y).1 + l, (cellF w x y).2 + o) := by
  match w, h with
  | 0, _ => exact congrArg some (Prod.ext (by show x + l = x + l; rfl) (by show y + o = y + o; rfl))
  | 1, _ => exact congrArg some (Prod.ext (by show (-1 - y) + l = (-1 - y) + l; rfl) (by show x + o = x + o; rfl))
  | 2, _ => exact congrArg some (Prod.ext (by show (-1 - x) + l = (-1 - x) + l; rfl) (by show (-1 - y) + o = (-1 - y) + o; rfl))
  | 3, _ => exact congrArg some (Prod.ext (by show (-1 - (-1 - y)) + l = y + l; omega) (by show (-1 - x) + o = (-1 - x) + o; rfl))
  | 4, _ => exact congrArg some (Prod.ext (by show (-1 - x) + l = (-1 - x) + l; rfl) (by show y + o = y + o; rfl))
  | 5, _ => exact congrArg some (Prod.ext (by show (-1 - y) + l = (-1 - y) + l; rfl) (by show (-1 - x) + o = (-1 - x) + o; rfl))
  | 6, _ => exact congrArg some (Prod.ext (by show (-1 - (-1 - x)) + l = x + l; omega) (by show (-1 - y) + o = (-1 - y) + o; rfl))
  | 7, _ => exact congrArg some (Prod.ext (by show (-1 - (-1 - y)) + l = y + l; omega) (by show (-1 - (-1 - x)) + o = x + o; omega))
theorem pput {w : Nat} (h : w < 8) (l o x y : Int) : m__law_put (l, o, (w : Int)) (x, y) = some ((cellF w x y).1 + l, (cellF w x y).2 + o) := by
  match w, h with
  | 0, _ => exact congrArg some (Prod.ext (by show x + l = x + l; rfl) (by show y + o = y + o; rfl))
  | 1, _ => exact congrArg some (Prod.ext (by show (-1 - y) + l = (-1 - y) + l; rfl) (by show x + o = x + o; rfl))
  | 2, _ => exact congrArg some (Prod.ext (by show (-1 - x) + l = (-1 - x) + l; rfl) (by show (-1 - y) + o = (-1 - y) + o; rfl))
  | 3, _ => exact congrArg some (Prod.ext (by show (-1 - (-1 - y)) + l = y + l; omega) (by show (-1 - x) + o = (-1 - x) + o; rfl))
  | 4, _ => exact congrArg some (Prod.ext (by show (-1 - x) + l = (-1 - x) + l; rfl) (by show y + o = y + o; rfl))
  | 5, _ => exact congrArg some (Prod.ext (by show (-1 - y) + l = (-1 - y) + l; rfl) (by show (-1 - x) + o = (-1 - x) + o; rfl))
  | 6, _ => exact congrArg some (Prod.ext (by show (-1 - (-1 - x)) + l = x + l; omega) (by show (-1 - y) + o = (-1 - y) + o; rfl))
  | 7, _ => exact congrArg some (Prod.ext (by show (-1 - (-1 - y)) + l = y + l; omega) (by show (-1 - (-1 - x)) + o = x + o; omega))
/-! ### the cells of a region, its parts told -/
def cellsOf (R : List Sp3) : List (Int × Int) := R.flatMap fun s => (rangeL s.2.1 (s.2.2 + 1)).map fun x => (x, s.1)
theorem cellsOf_mem {R : List Sp3} {x y : Int} : (x, y) ∈ cellsOf R ↔ InS R x y := by
  unfold cellsOf
  simp only [List.mem_flatMap, List.mem_map, mem_range2]
  constructor
  · rintro ⟨s, ms, z, hz, e⟩
    cases e
    exact ⟨s, ms, rfl, by omega, by omega⟩
  · rintro ⟨s, ms, e, a, b⟩
    exact ⟨s, ms, x, by omega, by rw [e]⟩
theorem rangeL_nodup {lo hi : Int} : (rangeL lo hi).Nodup := by
  unfold rangeL
  rw [List.Nodup, List.pairwise_map]
  exact List.nodup_range.imp fun {a b} h z => h (by omega)
theorem cellsOf_nodup {R : List Sp3} (h : Can R) : (cellsOf R).Nodup := by
  unfold cellsOf
  rw [List.Nodup, List.pairwise_flatMap]
  refine ⟨fun s _ => ?_, h.2.imp_of_mem fun {s t} ms mt q p mp r mr z => ?_⟩
  · rw [List.pairwise_map]
    exact rangeL_nodup.imp fun {a b} h z => h (by rw [Prod.mk.injEq] at z; exact z.1)
  · obtain ⟨x, hx, rfl⟩ := List.mem_map.1 mp
    obtain ⟨y, hy, rfl⟩ := List.mem_map.1 mr
    rw [mem_range2] at hx hy
    rw [Prod.mk.injEq] at z
    omega
theorem cellsOf_len (R : List Sp3) (h : ∀ s ∈ R, s.2.1 ≤ s.2.2) : ((cellsOf R).length : Int) = (R.map fun s => s.2.2 - s.2.1 + 1).sum := by
  induction R with
  | nil => rfl
  | cons s R ih =>
    have hs := h s (List.mem_cons_self ..)
    have e : cellsOf (s :: R) = ((rangeL s.2.1 (s.2.2 + 1)).map fun x => (x, s.1)) ++ cellsOf R := rfl
    rw [e, List.length_append, List.length_map, rangeL_len, List.map_cons, List.sum_cons, ← ih fun t m => h t (List.mem_cons_of_mem _ m)]
    omega
/-- a nodup list of cells and its region -/
theorem cells_perm {R : List Sp3} {L : List (Int × Int)} (h : Can R) (nd : L.Nodup) (hm : ∀ x y, InS R x y ↔ (x, y) ∈ L) : (cellsOf R).Perm L :=
  (List.perm_ext_iff_of_nodup (cellsOf_nodup h) nd).2 fun p => by
    obtain ⟨x, y⟩ := p
    rw [cellsOf_mem, hm]
theorem sort_perm {A B : List (Int × Int)} (h : A.Perm B) : sortB lpp A = sortB lpp B := by
  refine List.Perm.eq_of_pairwise (le := fun s t => s.1 < t.1 ∨ (s.1 = t.1 ∧ s.2 ≤ t.2)) (fun a b _ _ h1 h2 => Prod.ext (by omega) (by omega)) (sort2_pw A) (sort2_pw B) ?_
  exact ((List.mergeSort_perm _ _).trans h).trans (List.mergeSort_perm _ _).symm
theorem cells_in_ok {R : List Sp3} (hb : ∀ s ∈ R, -1000 ≤ s.2.1 ∧ s.2.1 ≤ 1000 ∧ -1000 ≤ s.2.2 ∧ s.2.2 ≤ 1000) (hl : R.length ≤ 1000) : m_cells_in R = some (sortB lpp (cellsOf R)) := by
  unfold m_cells_in
  dsimp only
  refine (forO_cat (fun s : Sp3 => (rangeL s.2.1 (s.2.2 + 1)).map fun x => (x, s.1)) 3000 SZ R [] (by show _ ≤ 16777216; simp only [List.length_nil]; omega) fun s ms => ?_).trans ?_
  · have b := hb s ms
    refine ⟨by rw [List.length_map, rangeL_len]; omega, fun t kc ht => ?_⟩
    rw [rgOk_small (by omega) (by omega) (by omega) (by omega), ck_true]
    refine (compO_map (fun x => (x, s.1)) () _ [] (by rw [rangeL_len]; show _ ≤ 16777216; simp only [List.length_nil]; omega) (fun _ _ _ => rfl)).trans ?_
    rw [List.nil_append, decide_eq_true (by rw [List.length_map, rangeL_len]; omega), ck_true]
  · rw [List.nil_append]; rfl
theorem moved_ok {R : List Sp3} (x y : Int) (hl : R.length ≤ 1000) (h : Can R) : ∃ S, m_moved R x y = some S ∧ Can S ∧ ∀ a b, InS S a b ↔ InS R (a - x) (b - y) := by
  refine ⟨R.map fun s => (s.1 + y, s.2.1 + x, s.2.2 + x), ?_, ⟨fun t m => ?_, ?_⟩, fun a b => ?_⟩
  · unfold m_moved
    exact compO_map (fun s : Sp3 => (s.1 + y, s.2.1 + x, s.2.2 + x)) () R [] (by show _ ≤ 16777216; simp only [List.length_nil]; omega) (fun _ _ _ => rfl)
  · obtain ⟨s, ms, rfl⟩ := List.mem_map.1 m
    have := h.1 s ms
    dsimp only; omega
  · rw [List.pairwise_map]
    exact h.2.imp fun {s t} q => by dsimp only; omega
  · constructor
    · rintro ⟨t, m, q⟩
      obtain ⟨s, ms, rfl⟩ := List.mem_map.1 m
      dsimp only at q
      exact ⟨s, ms, by omega, by omega, by omega⟩
    · rintro ⟨s, ms, q⟩
      exact ⟨_, List.mem_map.2 ⟨s, ms, rfl⟩, by dsimp only; omega, by dsimp only; omega, by dsimp only; omega⟩
theorem area_ok {R : List Sp3} (hl : R.length ≤ 1000) : m_area R = some (R.map fun s => s.2.2 - s.2.1 + 1).sum := by
  unfold m_area
  exact compO_map (fun s : Sp3 => s.2.2 - s.2.1 + 1) () R [] (by show _ ≤ 16777216; simp only [List.length_nil]; omega) (fun _ _ _ => rfl)
theorem area_is {R : List Sp3} {L : List (Int × Int)} (h : Can R) (nd : L.Nodup) (hm : ∀ x y, InS R x y ↔ (x, y) ∈ L) (hl : R.length ≤ 1000) : m_area R = some (L.length : Int) := by
  rw [area_ok hl, ← cellsOf_len R h.1, (cells_perm h nd hm).length_eq]
/-- the two judges of spans -/
theorem le3_ok {x y : Sp3} : le3 x y = true ↔ (x.1 < y.1 ∨ (x.1 = y.1 ∧ (x.2.1 < y.2.1 ∨ (x.2.1 = y.2.1 ∧ x.2.2 ≤ y.2.2)))) := by
  unfold le3
  split
  · split
    · split
      · simp; omega
      · rw [decide_eq_true_eq]; omega
    · rw [decide_eq_true_eq]; omega
  · rw [decide_eq_true_eq]; omega
def spanT (k : Nat) : PyData := .tuple [.str ("span" : Str), .int (k : Int)]
theorem forO_mapL {α β S Ω : Type} (f : α → β) {b : β → S → (S → Option Ω) → Option Ω} {k : S → Option Ω} : ∀ (xs : List α) (s : S), forO (xs.map f) s b k = forO xs s (fun x => b (f x)) k
  | [], _ => rfl
  | x :: xs, s => congrArg (b (f x) s) (funext fun s' => forO_mapL f xs s')
theorem spans_two (R : List Sp3) (hl : R.length ≤ 100000) : ∃ r, (r = PyData.none ∨ ∃ k : Nat, k < R.length ∧ r = spanT k) ∧ m_spans_fault R = some r ∧ m__law_fault R = some r := by
  unfold m_spans_fault m__law_fault
  dsimp only
  rw [rgOk_nat (by omega), ck_true]
  have er : enumL R = (rangeL 0 (R.length : Int)).map fun k : Int => (k, R.getD k.toNat (0, 0, 0)) := by
    rw [rangeL_nat, List.map_map]
    refine List.ext_getElem? fun i => ?_
    rw [enumL_get, List.getElem?_map]
    by_cases h : i < R.length
    · rw [List.getElem?_range h]; simp [List.getElem?_eq_getElem h, List.getD_eq_getElem?_getD]
    · rw [List.getElem?_eq_none (by omega), List.getElem?_eq_none (by simp; omega)]; rfl
  rw [er, forO_mapL]
  have gt : ∀ {k : Nat}, k < R.length → atI R (k : Int) = some (R.getD k (0, 0, 0)) := fun {k} h => by
    rw [Z.atI_nat h]; simp [List.getD_eq_getElem?_getD, List.getElem?_eq_getElem h]
  have two := fun b1 b2 h => forO_two (Ω := PyData) (Pr := fun r => ∃ k : Nat, k < R.length ∧ r = spanT k) (b1 := b1) (b2 := b2) (rangeL 0 (R.length : Int)) h
  have fin : ∀ (b1 b2 : Int → Unit → (Unit → Option PyData) → Option PyData), (∀ x ∈ rangeL 0 (R.length : Int), (∃ r, (∃ k : Nat, k < R.length ∧ r = spanT k) ∧ ∀ k1 k2, b1 x () k1 = some r ∧ b2 x () k2 = some r) ∨ (∀ k1 k2, b1 x () k1 = k1 () ∧ b2 x () k2 = k2 ())) →
      ∃ r, (r = PyData.none ∨ ∃ k : Nat, k < R.length ∧ r = spanT k) ∧ forO (rangeL 0 (R.length : Int)) () b1 (fun _ => some PyData.none) = some r ∧ forO (rangeL 0 (R.length : Int)) () b2 (fun _ => some PyData.none) = some r := fun b1 b2 h => by
    rcases two b1 b2 h with ⟨r, hr, q⟩ | q
    · exact ⟨r, .inr hr, (q (fun _ => some .none) (fun _ => some .none)).1, (q (fun _ => some .none) (fun _ => some .none)).2⟩
    · exact ⟨.none, .inl rfl, (q (fun _ => some .none) (fun _ => some .none)).1, (q (fun _ => some .none) (fun _ => some .none)).2⟩
  refine fin _ _ fun x mx => ?_
  obtain ⟨k, hk, rfl⟩ := mem_rangeL.1 mx
  rw [gt hk]
  simp only [Option.bind_some, Int.toNat_natCast]
  by_cases c1 : (R.getD k (0, 0, 0)).2.2 < (R.getD k (0, 0, 0)).2.1
  · refine .inl ⟨spanT k, ⟨k, hk, rfl⟩, fun k1 k2 => ?_⟩
    rw [decide_eq_true c1]
    constructor
    · split
      · rw [show ((k : Int) - 1) = ((k - 1 : Nat) : Int) by rename_i z; have := of_decide_eq_true z; omega, gt (by omega)]; rfl
      · rfl
    · rfl
  · rw [decide_eq_false c1]
    by_cases z : (0 : Int) < (k : Int)
    · rw [decide_eq_true z, show ((k : Int) - 1) = ((k - 1 : Nat) : Int) by omega, gt (by omega)]
      simp only [Option.bind_some, if_true, Bool.false_eq_true, if_false]
      have ep : ((R.getD k (0, 0, 0)).1, (R.getD k (0, 0, 0)).2.1, (R.getD k (0, 0, 0)).2.2) = R.getD k (0, 0, 0) := rfl
      rw [ep]
      by_cases c2 : le3 (R.getD k (0, 0, 0)) (R.getD (k - 1) (0, 0, 0)) = true
      · exact .inl ⟨spanT k, ⟨k, hk, rfl⟩, fun k1 k2 => by rw [if_pos c2, if_pos c2]; exact ⟨rfl, rfl⟩⟩
      · by_cases c3 : (R.getD k (0, 0, 0)).1 = (R.getD (k - 1) (0, 0, 0)).1
        · by_cases c4 : (R.getD k (0, 0, 0)).2.1 ≤ (R.getD (k - 1) (0, 0, 0)).2.2 + 1
          · exact .inl ⟨spanT k, ⟨k, hk, rfl⟩, fun k1 k2 => by
              rw [if_neg c2, if_neg c2, if_pos (decide_eq_true c3), if_pos (decide_eq_true c3), if_pos (decide_eq_true c4), if_pos (decide_eq_true c4)]; exact ⟨rfl, rfl⟩⟩
          · have c4' : ¬ (decide ((R.getD k (0, 0, 0)).2.1 ≤ (R.getD (k - 1) (0, 0, 0)).2.2 + 1) = true) := fun w => c4 (of_decide_eq_true w)
            exact .inr fun k1 k2 => by rw [if_neg c2, if_neg c2, if_pos (decide_eq_true c3), if_pos (decide_eq_true c3), if_neg c4', if_neg c4']; exact ⟨rfl, rfl⟩
        · have c3' : ¬ (decide ((R.getD k (0, 0, 0)).1 = (R.getD (k - 1) (0, 0, 0)).1) = true) := fun w => c3 (of_decide_eq_true w)
          exact .inr fun k1 k2 => by rw [if_neg c2, if_neg c2, if_neg c3', if_neg c3']; exact ⟨rfl, rfl⟩
    · rw [decide_eq_false z]
      refine .inr fun k1 k2 => ⟨?_, rfl⟩
      simp only [Bool.false_eq_true, if_false]
      rw [if_neg (fun w => by have := le3_ok.1 w; dsimp only at this; omega), if_neg (fun w => by have := of_decide_eq_true w; omega)]
theorem minI_is {l : List Int} {m : Int} (hm : m ∈ l) (h : ∀ y ∈ l, m ≤ y) : minI l = some m := by
  have key : ∀ (l : List Int) (a : Int), l.foldl min a ∈ a :: l ∧ ∀ y ∈ a :: l, l.foldl min a ≤ y := by
    intro l
    induction l with
    | nil => intro a; exact ⟨by simp, fun y m => by simp at m; subst m; exact Int.le_refl _⟩
    | cons b l ih =>
      intro a
      obtain ⟨i1, i2⟩ := ih (min a b)
      rw [List.foldl_cons]
      refine ⟨?_, fun y m => ?_⟩
      · rcases List.mem_cons.1 i1 with z | z
        · rw [z]; rcases Int.le_total a b with q | q
          · rw [Int.min_eq_left q]; simp
          · rw [Int.min_eq_right q]; simp
        · simp [z]
      · have i3 := i2 (min a b) (List.mem_cons_self ..)
        rcases List.mem_cons.1 m with rfl | m
        · omega
        · rcases List.mem_cons.1 m with rfl | m
          · omega
          · exact i2 y (List.mem_cons_of_mem _ m)
  cases l with
  | nil => cases hm
  | cons a l =>
    obtain ⟨i1, i2⟩ := key l a
    show some _ = some m
    have := h _ i1
    have := i2 m hm
    exact congrArg some (by omega)
theorem maxI_is {l : List Int} {m : Int} (hm : m ∈ l) (h : ∀ y ∈ l, y ≤ m) : maxI l = some m := by
  have key : ∀ (l : List Int) (a : Int), l.foldl max a ∈ a :: l ∧ ∀ y ∈ a :: l, y ≤ l.foldl max a := by
    intro l
    induction l with
    | nil => intro a; exact ⟨by simp, fun y m => by simp at m; subst m; exact Int.le_refl _⟩
    | cons b l ih =>
      intro a
      obtain ⟨i1, i2⟩ := ih (max a b)
      rw [List.foldl_cons]
      refine ⟨?_, fun y m => ?_⟩
      · rcases List.mem_cons.1 i1 with z | z
        · rw [z]; rcases Int.le_total a b with q | q
          · rw [Int.max_eq_right q]; simp
          · rw [Int.max_eq_left q]; simp
        · simp [z]
      · have i3 := i2 (max a b) (List.mem_cons_self ..)
        rcases List.mem_cons.1 m with rfl | m
        · omega
        · rcases List.mem_cons.1 m with rfl | m
          · omega
          · exact i2 y (List.mem_cons_of_mem _ m)
  cases l with
  | nil => cases hm
  | cons a l =>
    obtain ⟨i1, i2⟩ := key l a
    show some _ = some m
    have := h _ i1
    have := i2 m hm
    exact congrArg some (by omega)
theorem minI_ex {l : List Int} (h : l ≠ []) : ∃ m, m ∈ l ∧ (∀ y ∈ l, m ≤ y) ∧ minI l = some m := by
  suffices ∃ m, m ∈ l ∧ ∀ y ∈ l, m ≤ y by
    obtain ⟨m, a, b⟩ := this
    exact ⟨m, a, b, minI_is a b⟩
  induction l with
  | nil => exact absurd rfl h
  | cons a l ih =>
    by_cases z : l = []
    · subst z; exact ⟨a, by simp, fun y m => by simp at m; omega⟩
    · obtain ⟨m, h1, h2⟩ := ih z
      by_cases q : a ≤ m
      · exact ⟨a, by simp, fun y my => by
          rcases List.mem_cons.1 my with rfl | my
          · omega
          · have := h2 y my; omega⟩
      · exact ⟨m, by simp [h1], fun y my => by
          rcases List.mem_cons.1 my with rfl | my
          · omega
          · exact h2 y my⟩
theorem maxI_ex {l : List Int} (h : l ≠ []) : ∃ m, m ∈ l ∧ (∀ y ∈ l, y ≤ m) ∧ maxI l = some m := by
  suffices ∃ m, m ∈ l ∧ ∀ y ∈ l, y ≤ m by
    obtain ⟨m, a, b⟩ := this
    exact ⟨m, a, b, maxI_is a b⟩
  induction l with
  | nil => exact absurd rfl h
  | cons a l ih =>
    by_cases z : l = []
    · subst z; exact ⟨a, by simp, fun y m => by simp at m; omega⟩
    · obtain ⟨m, h1, h2⟩ := ih z
      by_cases q : m ≤ a
      · exact ⟨a, by simp, fun y my => by
          rcases List.mem_cons.1 my with rfl | my
          · omega
          · have := h2 y my; omega⟩
      · exact ⟨m, by simp [h1], fun y my => by
          rcases List.mem_cons.1 my with rfl | my
          · omega
          · exact h2 y my⟩
/-- the box of a region, by the cells -/
theorem box_ok {R : List Sp3} {L : List (Int × Int)} {x0 x1 y0 y1 : Int} (h : Can R) (hm : ∀ x y, InS R x y ↔ (x, y) ∈ L) (hl : R.length ≤ 1000) (hn : L ≠ [])
    (a0 : x0 ∈ L.map (·.1)) (a1 : ∀ y ∈ L.map (·.1), x0 ≤ y) (b0 : x1 ∈ L.map (·.1)) (b1 : ∀ y ∈ L.map (·.1), y ≤ x1) (c0 : y0 ∈ L.map (·.2)) (c1 : ∀ y ∈ L.map (·.2), y0 ≤ y) (d0 : y1 ∈ L.map (·.2)) (d1 : ∀ y ∈ L.map (·.2), y ≤ y1) :
    m_box R = some (some (x0, y0, x1 - x0 + 1, y1 - y0 + 1)) := by
  have inL : ∀ s ∈ R, (s.2.1, s.1) ∈ L ∧ (s.2.2, s.1) ∈ L := fun s ms => ⟨(hm _ _).1 ⟨s, ms, rfl, Int.le_refl _, h.1 s ms⟩, (hm _ _).1 ⟨s, ms, rfl, h.1 s ms, Int.le_refl _⟩⟩
  have gx : ∀ p ∈ L, x0 ≤ p.1 ∧ p.1 ≤ x1 ∧ y0 ≤ p.2 ∧ p.2 ≤ y1 := fun p mp => ⟨a1 _ (List.mem_map.2 ⟨p, mp, rfl⟩), b1 _ (List.mem_map.2 ⟨p, mp, rfl⟩), c1 _ (List.mem_map.2 ⟨p, mp, rfl⟩), d1 _ (List.mem_map.2 ⟨p, mp, rfl⟩)⟩
  have m0 : minI (R.map fun s => s.2.1) = some x0 := by
    obtain ⟨p, mp, ep⟩ := List.mem_map.1 a0
    obtain ⟨s, ms, e, q1, q2⟩ := (hm p.1 p.2).2 mp
    have g := gx _ (inL s ms).1
    dsimp only at g
    refine minI_is (List.mem_map.2 ⟨s, ms, by omega⟩) fun y my => ?_
    obtain ⟨t, mt, rfl⟩ := List.mem_map.1 my
    exact (gx _ (inL t mt).1).1
  have m1 : maxI (R.map fun s => s.2.2) = some x1 := by
    obtain ⟨p, mp, ep⟩ := List.mem_map.1 b0
    obtain ⟨s, ms, e, q1, q2⟩ := (hm p.1 p.2).2 mp
    have g := gx _ (inL s ms).2
    dsimp only at g
    refine maxI_is (List.mem_map.2 ⟨s, ms, by omega⟩) fun y my => ?_
    obtain ⟨t, mt, rfl⟩ := List.mem_map.1 my
    exact (gx _ (inL t mt).2).2.1
  unfold m_box
  rcases List.eq_nil_or_concat R with e | ⟨R', u, e⟩
  · obtain ⟨p, mp⟩ := List.exists_mem_of_ne_nil L hn
    obtain ⟨s, ms, _⟩ := (hm p.1 p.2).2 mp
    rw [e] at ms; cases ms
  · rw [List.concat_eq_append] at e
    have hp : 0 < R.length := by rw [e]; simp
    obtain ⟨f, F', ef⟩ : ∃ f F', R = f :: F' := by
      cases R with
      | nil => simp at hp
      | cons f F' => exact ⟨f, F', rfl⟩
    have af : atI R 0 = some f := by rw [ef]; exact Z.atI_nat (xs := f :: F') (i := 0) (by simp)
    have al : atI R (-(1 : Int)) = some u := by rw [e]; exact Z.atI_last
    have fy : f.1 = y0 := by
      obtain ⟨p, mp, ep⟩ := List.mem_map.1 c0
      obtain ⟨s, ms, es, _⟩ := (hm p.1 p.2).2 mp
      have g := gx _ (inL f (by rw [ef]; simp)).1
      dsimp only at g
      rw [ef] at ms
      rcases List.mem_cons.1 ms with rfl | ms
      · omega
      · have := (List.pairwise_cons.1 (ef ▸ h.2)).1 s ms
        omega
    have uy : u.1 = y1 := by
      obtain ⟨p, mp, ep⟩ := List.mem_map.1 d0
      obtain ⟨s, ms, es, _⟩ := (hm p.1 p.2).2 mp
      have g := gx _ (inL u (by rw [e]; simp)).1
      dsimp only at g
      rw [e] at ms
      rcases List.mem_append.1 ms with ms | ms
      · have := (List.pairwise_append.1 (e ▸ h.2)).2.2 s ms u (by simp)
        omega
      · rw [List.mem_singleton] at ms; subst ms; omega
    rw [if_neg (fun z => by have := of_decide_eq_true z; omega)]
    refine (compO_map (fun s : Sp3 => s.2.1) () R [] (by show _ ≤ 16777216; simp only [List.length_nil]; omega) (fun _ _ _ => rfl)).trans ?_
    rw [List.nil_append, m0, Option.bind_some]
    refine (compO_map (fun s : Sp3 => s.2.2) () R [] (by show _ ≤ 16777216; simp only [List.length_nil]; omega) (fun _ _ _ => rfl)).trans ?_
    rw [List.nil_append, m1, Option.bind_some, af, Option.bind_some, al, Option.bind_some, Option.bind_some, fy, uy]
theorem drawB_ok {n v s : Int} {sc : List Int} (hn : 0 ≤ n) (h0 : 0 < s) (h1 : s < 1073741824) : ∃ d n' v', m__law_draw [n, v] sc s = some (d, [n', v']) ∧ 0 ≤ d ∧ d < s ∧ 0 ≤ n' := by
  have a1 : ∀ a b : Int, atI [a, b] (1 : Int) = some b := fun _ _ => rfl
  have a0 : ∀ a b : Int, atI [a, b] (0 : Int) = some a := fun _ _ => rfl
  have i1 : ∀ a b : Int, ixN [a, b].length (1 : Int) = some 1 := fun _ _ => rfl
  have i0 : ∀ a b : Int, ixN [a, b].length (0 : Int) = some 0 := fun _ _ => rfl
  have s1 : ∀ a b c : Int, List.set [a, b] 1 c = [a, c] := fun _ _ _ => rfl
  have s0 : ∀ a b c : Int, List.set [a, b] 0 c = [c, b] := fun _ _ _ => rfl
  have m1 : ∀ x, mulOk x 7919 = true := fun x => mulOk_r (by decide) (by decide)
  have m2 : ∀ x, mulOk x 48271 = true := fun x => mulOk_r (by decide) (by decide)
  have m3 : ∀ x, mulOk x 69621 = true := fun x => mulOk_r (by decide) (by decide)
  have m4 : ∀ x, mulOk x 104729 = true := fun x => mulOk_r (by decide) (by decide)
  have m5 : ∀ x, mulOk 2 x = true := fun x => mulOk_l (by decide) (by decide)
  have d1 : modOk 2147483647 = true := by decide
  have d2 : modOk 4294967291 = true := by decide
  have p1 : powOk 10 18 = true := by decide
  unfold m__law_draw
  by_cases hl : (0 : Int) < (sc.length : Int)
  · obtain ⟨k, hk, e, ek⟩ := atI_pos (xs := sc) (Int.fmod_nonneg_of_pos n hl) (Int.fmod_lt_of_pos n hl)
    simp only [a1, a0, i1, i0, s1, s0, m1, m2, m3, m4, m5, d1, d2, p1, modOk_pos h0, divOk_pos h0 h1, modOk_pos hl, ck_true, Option.bind_some, ek]
    repeat' split
    all_goals exact ⟨_, _, _, rfl, Int.fmod_nonneg_of_pos _ h0, Int.fmod_lt_of_pos _ h0, by omega⟩
  · simp only [a1, a0, i1, i0, s1, s0, m1, m2, m3, m4, m5, d1, d2, p1, modOk_pos h0, divOk_pos h0 h1, ck_true, Option.bind_some]
    rw [if_neg (show ¬ (decide ((0 : Int) < (sc.length : Int)) = true) from fun z => hl (of_decide_eq_true z))]
    repeat' split
    all_goals exact ⟨_, _, _, rfl, Int.fmod_nonneg_of_pos _ h0, Int.fmod_lt_of_pos _ h0, by omega⟩
theorem forO_exN {α S Ω : Type} {P : Ω → Prop} (Inv : Nat → S → Prop) {b : α → S → (S → Option Ω) → Option Ω} {k : S → Option Ω} : ∀ (xs : List α) (n : Nat) (s : S), Inv n s →
    (∀ i s x, xs[i]? = some x → Inv (n + i) s → ∀ kc : S → Option Ω, (∀ s', Inv (n + i + 1) s' → ∃ r, kc s' = some r ∧ P r) → ∃ r, b x s kc = some r ∧ P r) → (∀ s, Inv (n + xs.length) s → ∃ r, k s = some r ∧ P r) → ∃ r, forO xs s b k = some r ∧ P r
  | [], n, s, h0, _, he => he s h0
  | x :: xs, n, s, h0, hs, he => hs 0 s x rfl h0 _ fun s' h' => forO_exN Inv xs (n + 1) s' h'
      (fun i s y e h kc hk => hs (i + 1) s y e (by rw [show n + (i + 1) = n + 1 + i by omega]; exact h) kc fun s' h' => hk s' (by rw [show n + 1 + i + 1 = n + (i + 1) + 1 by omega]; exact h'))
      fun s h => he s (by rw [show n + (x :: xs).length = n + 1 + xs.length by simp; omega]; exact h)
theorem fault_can {R : List Sp3} (h : Can R) (hl : R.length ≤ 100000) : m_spans_fault R = some .none := by
  unfold m_spans_fault
  dsimp only
  have er : enumL R = (rangeL 0 (R.length : Int)).map fun k : Int => (k, R.getD k.toNat (0, 0, 0)) := by
    rw [rangeL_nat, List.map_map]
    refine List.ext_getElem? fun i => ?_
    rw [enumL_get, List.getElem?_map]
    by_cases h : i < R.length
    · rw [List.getElem?_range h]; simp [List.getElem?_eq_getElem h, List.getD_eq_getElem?_getD]
    · rw [List.getElem?_eq_none (by omega), List.getElem?_eq_none (by simp; omega)]; rfl
  rw [er, forO_mapL]
  have gt : ∀ {k : Nat}, k < R.length → atI R (k : Int) = some (R.getD k (0, 0, 0)) := fun {k} h => by
    rw [Z.atI_nat h]; simp [List.getD_eq_getElem?_getD, List.getElem?_eq_getElem h]
  have gg : ∀ {k : Nat} (h : k < R.length), R.getD k (0, 0, 0) = R[k] := fun {k} h => by simp [List.getD_eq_getElem?_getD, List.getElem?_eq_getElem h]
  refine forO_skip _ fun x mx kc => ?_
  obtain ⟨k, hk, rfl⟩ := mem_rangeL.1 mx
  simp only [Int.toNat_natCast]
  have v : (R.getD k (0, 0, 0)).2.1 ≤ (R.getD k (0, 0, 0)).2.2 := by rw [gg hk]; exact h.1 _ (List.getElem_mem hk)
  by_cases z : (0 : Int) < (k : Int)
  · have pw := List.pairwise_iff_getElem.1 h.2 (k - 1) k (by omega) hk (by omega)
    rw [← gg hk, ← gg (show k - 1 < R.length by omega)] at pw
    rw [if_pos (decide_eq_true z), show ((k : Int) - 1) = ((k - 1 : Nat) : Int) by omega, gt (by omega), Option.bind_some]
    have vp : (R.getD (k - 1) (0, 0, 0)).2.1 ≤ (R.getD (k - 1) (0, 0, 0)).2.2 := by rw [gg (show k - 1 < R.length by omega)]; exact h.1 _ (List.getElem_mem _)
    rw [if_neg (fun w => by have := of_decide_eq_true w; omega), if_neg (fun w => by have := le3_ok.1 w; omega)]
    by_cases c : (R.getD k (0, 0, 0)).1 = (R.getD (k - 1) (0, 0, 0)).1
    · rw [if_pos (decide_eq_true c), if_neg (fun w => by have := of_decide_eq_true w; omega)]
    · rw [if_neg (fun w => c (of_decide_eq_true w))]; rfl
  · rw [if_neg (fun w => z (of_decide_eq_true w)), if_neg (fun w => by have := of_decide_eq_true w; omega), if_neg (fun w => by have := le3_ok.1 w; dsimp only at this; omega), if_neg (fun w => by have := of_decide_eq_true w; omega)]; rfl
/-- the cells that are drawn, each once -/
theorem blob_nd {n v s : Int} {sc : List Int} (hn : 0 ≤ n) (h0 : 0 < s) (h1 : s ≤ 7) : ∃ r, m__law_blob [n, v] sc s = some r ∧ (∃ n' v', r.2 = [n', v'] ∧ 0 ≤ n') ∧ r.1.length ≤ 49 ∧ (∀ p ∈ r.1, 0 ≤ p.1 ∧ p.1 < 7 ∧ 0 ≤ p.2 ∧ p.2 < 7) ∧ r.1.Nodup := by
  unfold m__law_blob
  obtain ⟨d, n1, v1, e, a, b, c⟩ := drawB_ok (v := v) (sc := sc) hn (show (0 : Int) < 3 by decide) (by decide)
  rw [e, Option.bind_some]
  dsimp only
  rw [rgOk_small (by omega) (by omega) (by omega) (by omega), ck_true]
  have hr : (rangeL 0 s).length ≤ 7 := by rw [rangeL_len]; omega
  have hSZ : (100000 : Nat) ≤ SZ := by decide
  have at0 : ∀ (i : Nat) (y : Int), (rangeL 0 s)[i]? = some y → y = i := fun i y ey => by
    unfold rangeL at ey
    rw [List.getElem?_map] at ey
    by_cases q : i < (s - 0).toNat
    · rw [List.getElem?_range q] at ey; simp at ey; omega
    · rw [List.getElem?_eq_none (by simpa using q)] at ey; cases ey
  refine forO_exN (fun i (t : List Int × List (Int × Int)) => (∃ n' v', t.1 = [n', v'] ∧ 0 ≤ n') ∧ t.2.length ≤ 7 * i ∧ (∀ p ∈ t.2, 0 ≤ p.1 ∧ p.1 < 7 ∧ 0 ≤ p.2 ∧ p.2 < 7) ∧ t.2.Nodup ∧ ∀ p ∈ t.2, p.2 < (i : Int)) _ 0 _ ⟨⟨n1, v1, rfl, c⟩, by simp, (fun _ m => nomatch m), List.nodup_nil, fun _ m => nomatch m⟩ (fun i t y ey ht kc hk => ?_) fun t ht => ⟨_, rfl, ht.1, by dsimp only; have := ht.2.1; omega, ht.2.2.1, ht.2.2.2.1⟩
  have hy := mem_range2.1 (List.mem_of_getElem? ey)
  have hyi := at0 i y ey
  have hi : i < (rangeL 0 s).length := (List.getElem?_eq_some_iff.mp ey).1
  rw [ck_true]
  refine forO_exN (fun j (t : List Int × List (Int × Int)) => (∃ n' v', t.1 = [n', v'] ∧ 0 ≤ n') ∧ t.2.length ≤ 7 * i + j ∧ (∀ p ∈ t.2, 0 ≤ p.1 ∧ p.1 < 7 ∧ 0 ≤ p.2 ∧ p.2 < 7) ∧ t.2.Nodup ∧ ∀ p ∈ t.2, p.2 < (i : Int) ∨ (p.2 = (i : Int) ∧ p.1 < (j : Int))) _ 0 _ ⟨ht.1, by have := ht.2.1; dsimp only; omega, ht.2.2.1, ht.2.2.2.1, fun p m => .inl (by have := ht.2.2.2.2 p m; omega)⟩ (fun j t x ex ht kc2 hk2 => ?_) fun t ht => hk _ ⟨ht.1, by have := ht.2.1; dsimp only; omega, ht.2.2.1, ht.2.2.2.1, fun p m => by have := ht.2.2.2.2 p m; omega⟩
  have hx := mem_range2.1 (List.mem_of_getElem? ex)
  have hxj := at0 j x ex
  have hj : j < (rangeL 0 s).length := (List.getElem?_eq_some_iff.mp ex).1
  obtain ⟨⟨n2, v2, e2, c2⟩, l2, q2, nd, od⟩ := ht
  obtain ⟨d3, n3, v3, e3, a3, b3, c3⟩ := drawB_ok (v := v2) (sc := sc) c2 (show (0 : Int) < 4 by decide) (by decide)
  rw [e2, e3, Option.bind_some]
  dsimp only
  rw [decide_eq_true (show t.2.length < SZ by omega), ck_true]
  split
  · refine hk2 _ ⟨⟨n3, v3, rfl, c3⟩, by dsimp only; rw [List.length_append, List.length_singleton]; omega, fun p m => ?_, ?_, fun p m => ?_⟩
    · rcases List.mem_append.1 m with m | m
      · exact q2 p m
      · rw [List.mem_singleton] at m; subst m; dsimp only; omega
    · refine List.nodup_append.2 ⟨nd, by simp, fun p mp q mq z => ?_⟩
      rw [List.mem_singleton] at mq; subst mq; subst z
      have := od _ mp
      dsimp only at this; omega
    · rcases List.mem_append.1 m with m | m
      · have := od p m; omega
      · rw [List.mem_singleton] at m; subst m; dsimp only; omega
  · exact hk2 _ ⟨⟨n3, v3, rfl, c3⟩, by dsimp only; omega, q2, nd, fun p m => by have := od p m; omega⟩
/-! ### texts of two regions, of faults, of boxes -/
theorem reg_parts : ∀ T : List Sp3, (∀ s ∈ T, s.1.natAbs < 10 ^ 12 ∧ s.2.1.natAbs < 10 ^ 12 ∧ s.2.2.natAbs < 10 ^ 12) → PyData.showableAll (T.map (eT3 eI eI eI).enc) = true ∧ PyData.leavesShortAll 13 (T.map (eT3 eI eI eI).enc) = true ∧ PyData.bulkAll (T.map (eT3 eI eI eI).enc) = 4 * T.length := by
  have lg : ∀ i : Int, i.natAbs < 10 ^ 12 → i.natAbs.log2 < 1920 := fun i h => by
    by_cases z : i.natAbs = 0
    · rw [z]; decide
    · exact (Nat.log2_lt z).2 (Nat.lt_of_lt_of_le h (by decide +kernel))
  intro T
  induction T with
  | nil => intro _; exact ⟨by rw [List.map_nil, PyData.showableAll], by rw [List.map_nil, PyData.leavesShortAll], by rw [List.map_nil, PyData.bulkAll]; rfl⟩
  | cons s T ih =>
    intro h
    obtain ⟨i1, i2, i3⟩ := ih fun t m => h t (List.mem_cons_of_mem _ m)
    obtain ⟨h1, h2, h3⟩ := h s (List.mem_cons_self ..)
    have e : (eT3 eI eI eI).enc s = .tuple [.int s.1, .int s.2.1, .int s.2.2] := rfl
    rw [List.map_cons, e]
    refine ⟨?_, ?_, ?_⟩
    · rw [PyData.showableAll, i1]
      simp [PyData.showable, PyData.showableAll, lg _ h1, lg _ h2, lg _ h3]
    · rw [PyData.leavesShortAll, i2]
      simp [PyData.leavesShort, PyData.leavesShortAll, PyData.shown_int_le h1, PyData.shown_int_le h2, PyData.shown_int_le h3]
    · rw [PyData.bulkAll, i3]
      simp [PyData.bulk, PyData.bulkAll]
      omega
theorem regs_show {A B : List Sp3} (ha : ∀ s ∈ A, s.1.natAbs < 10 ^ 12 ∧ s.2.1.natAbs < 10 ^ 12 ∧ s.2.2.natAbs < 10 ^ 12) (hb : ∀ s ∈ B, s.1.natAbs < 10 ^ 12 ∧ s.2.1.natAbs < 10 ^ 12 ∧ s.2.2.natAbs < 10 ^ 12) (la : A.length ≤ 1000) (lb : B.length ≤ 1000) :
    showOk ((eL (eL (eT3 eI eI eI))).enc [A, B]) = true := by
  obtain ⟨a1, a2, a3⟩ := reg_parts A ha
  obtain ⟨b1, b2, b3⟩ := reg_parts B hb
  have e : (eL (eL (eT3 eI eI eI))).enc [A, B] = .list [.list (A.map (eT3 eI eI eI).enc), .list (B.map (eT3 eI eI eI).enc)] := rfl
  have d1 := (dtL (dtL (dtT3 dtI dtI dtI))).lay [A, B]
  have d2 := (dtL (dtL (dtT3 dtI dtI dtI))).dep [A, B]
  have d3 : ((eL (eL (eT3 eI eI eI))).enc [A, B]).shown.length ≤ sizeLine := PyData.shown_fits_bulk (B := 13) (by decide) (by decide) (by rw [e]; simp [PyData.leavesShort, PyData.leavesShortAll, a2, b2]) (by
    rw [e]
    simp only [PyData.bulk, PyData.bulkAll, a3, b3]
    have : (10000 : Nat) ≤ 2 ^ 20 := by decide
    omega)
  unfold showOk
  rw [d1, decide_eq_true d3, decide_eq_true (show ((eL (eL (eT3 eI eI eI))).enc [A, B]).depth ≤ 60 from Nat.le_trans d2 (by decide)), e]
  simp [PyData.showable, PyData.showableAll, a1, b1]
theorem span_show {k : Nat} (h : k < 100000) : showOk (spanT k) = true := by
  have sk : ((k : Int)).natAbs < 10 ^ 12 := by
    have : (100000 : Nat) ≤ 10 ^ 12 := by decide
    omega
  have lg : ((k : Int)).natAbs.log2 < 1920 := by
    by_cases z : ((k : Int)).natAbs = 0
    · rw [z]; decide
    · exact (Nat.log2_lt z).2 (Nat.lt_of_lt_of_le sk (by decide +kernel))
  have hs : PyData.strOk ("span" : Str) = true := by decide +kernel
  have hc : (Str.cps ("span" : Str)).toList.all (fun c => decide (c < 16 ^ 8)) = true := by decide +kernel
  have hz : (Str.cps ("span" : Str)).size ≤ 4 := by decide +kernel
  have d3 : (spanT k).shown.length ≤ sizeLine := PyData.shown_fits_bulk (B := 13) (by decide) (by decide) (by
    unfold spanT
    simp only [PyData.leavesShort, PyData.leavesShortAll, hc, PyData.shown_int_le sk]
    decide) (by
    unfold spanT
    simp only [PyData.bulk, PyData.bulkAll]
    have : (100 : Nat) ≤ 2 ^ 20 := by decide
    omega)
  unfold showOk
  rw [decide_eq_true d3]
  unfold spanT
  simp [PyData.canLay0, PyData.canLayAll0, PyData.showable, PyData.showableAll, PyData.depth, PyData.depthAll, hs, show k.log2 < 1920 by simpa using lg]
theorem none_show : showOk PyData.none = true := by decide +kernel
theorem box_show {a b c d : Int} (ha : -1000 ≤ a ∧ a ≤ 1000) (hb : -1000 ≤ b ∧ b ≤ 1000) (hc : -1000 ≤ c ∧ c ≤ 1000) (hd : -1000 ≤ d ∧ d ≤ 1000) : showOk (.tuple [.int a, .int b, .int c, .int d]) = true := by
  have lt : ∀ i : Int, -1000 ≤ i ∧ i ≤ 1000 → i.natAbs < 10 ^ 12 := fun i h => by
    have : (1001 : Nat) ≤ 10 ^ 12 := by decide
    omega
  have lg : ∀ i : Int, i.natAbs < 10 ^ 12 → i.natAbs.log2 < 1920 := fun i h => by
    by_cases z : i.natAbs = 0
    · rw [z]; decide
    · exact (Nat.log2_lt z).2 (Nat.lt_of_lt_of_le h (by decide +kernel))
  have d3 : (PyData.tuple [.int a, .int b, .int c, .int d]).shown.length ≤ sizeLine := PyData.shown_fits_bulk (B := 13) (by decide) (by decide) (by
    simp only [PyData.leavesShort, PyData.leavesShortAll, PyData.shown_int_le (lt _ ha), PyData.shown_int_le (lt _ hb), PyData.shown_int_le (lt _ hc), PyData.shown_int_le (lt _ hd)]
    decide) (by
    simp only [PyData.bulk, PyData.bulkAll]
    have : (100 : Nat) ≤ 2 ^ 20 := by decide
    omega)
  unfold showOk
  rw [decide_eq_true d3]
  simp [PyData.canLay0, PyData.canLayAll0, PyData.showable, PyData.showableAll, PyData.depth, PyData.depthAll, lg _ (lt _ ha), lg _ (lt _ hb), lg _ (lt _ hc), lg _ (lt _ hd)]
/-! ### the law -/
theorem cutL_sub {α : Type} {xs : List α} {a b : Option Int} {x : α} (h : x ∈ cutL xs a b) : x ∈ xs := by
  unfold cutL at h
  exact List.mem_of_mem_drop (List.mem_of_mem_take h)
theorem law_true (ns : List Int) (h : ns.length ≤ 63) : m_law ns = some true := by
  have hSZ : (100000 : Nat) ≤ SZ := by decide
  unfold m_law
  dsimp only
  obtain ⟨d1, n1, v1, e1, a1, b1, c1⟩ := drawB_ok (n := 0) (v := 0) (sc := ns) (Int.le_refl 0) (show (0 : Int) < 6 by decide) (by decide)
  refine bind_wp e1 ?_
  dsimp only
  obtain ⟨⟨C, st⟩, e2, ⟨n2, v2, es, c2⟩, lC, qC, ndC⟩ := blob_nd (n := n1) (v := v1) (s := 1 + d1) (sc := ns) c1 (by omega) (by omega)
  dsimp only at es lC qC ndC
  subst es
  refine bind_wp e2 ?_
  dsimp only
  obtain ⟨d3, n3, v3, e3, a3, b3, c3⟩ := drawB_ok (n := n2) (v := v2) (sc := ns) c2 (show (0 : Int) < 6 by decide) (by decide)
  refine bind_wp e3 ?_
  dsimp only
  obtain ⟨⟨D, st⟩, e4, ⟨n4, v4, es, c4⟩, lD, qD, ndD⟩ := blob_nd (n := n3) (v := v3) (s := 1 + d3) (sc := ns) c3 (by omega) (by omega)
  dsimp only at es lD qD ndD
  subst es
  refine bind_wp e4 ?_
  dsimp only
  have lcut := cutL_len C none (some 2)
  refine ck_wp (decide_eq_true (by omega)) ?_
  obtain ⟨A, eA, cA, iA', lA'⟩ := region_ok (L := C ++ cutL C none (some 2)) (by rw [List.length_append]; omega)
  have iA : ∀ x y, InS A x y ↔ (x, y) ∈ C := fun x y => by
    rw [iA', List.mem_append]
    exact ⟨fun z => z.elim id cutL_sub, .inl⟩
  obtain ⟨B, eB, cB, iB', lB'⟩ := region_ok (L := D.reverse) (by rw [List.length_reverse]; omega)
  have iB : ∀ x y, InS B x y ↔ (x, y) ∈ D := fun x y => by rw [iB', List.mem_reverse]
  have lA := Can.count cA fun x y z => (iA x y).1 z
  have lB := Can.count cB fun x y z => (iB x y).1 z
  refine bind_wp eA (bind_wp eB ?_)
  obtain ⟨R1, r1, k1, j1, _⟩ := lregion_ok (L := C) (by omega)
  obtain ⟨R2, r2, k2, j2, _⟩ := lregion_ok (L := D) (by omega)
  refine bind_wp r1 ?_
  rw [eq_can cA k1 fun x y => by rw [iA, j1], if_neg (by decide)]
  refine bind_wp r2 ?_
  rw [eq_can cB k2 fun x y => by rw [iB, j2], if_neg (by decide)]
  have bA : ∀ s ∈ A, (0 ≤ s.1 ∧ s.1 < 7) ∧ (0 ≤ s.2.1 ∧ s.2.1 < 7) ∧ 0 ≤ s.2.2 ∧ s.2.2 < 7 := fun s ms => by
    have v := cA.1 s ms
    have w1 := qC _ ((iA s.2.1 s.1).1 ⟨s, ms, rfl, Int.le_refl _, v⟩)
    have w2 := qC _ ((iA s.2.2 s.1).1 ⟨s, ms, rfl, v, Int.le_refl _⟩)
    dsimp only at w1 w2
    omega
  have bB : ∀ s ∈ B, (0 ≤ s.1 ∧ s.1 < 7) ∧ (0 ≤ s.2.1 ∧ s.2.1 < 7) ∧ 0 ≤ s.2.2 ∧ s.2.2 < 7 := fun s ms => by
    have v := cB.1 s ms
    have w1 := qD _ ((iB s.2.1 s.1).1 ⟨s, ms, rfl, Int.le_refl _, v⟩)
    have w2 := qD _ ((iB s.2.2 s.1).1 ⟨s, ms, rfl, v, Int.le_refl _⟩)
    dsimp only at w1 w2
    omega
  refine bind_wp (cells_in_ok (fun s ms => by have := bA s ms; omega) (by omega)) (bind_wp rfl ?_)
  rw [decide_eq_true (sort_perm (cells_perm cA ndC iA)), if_neg (show ¬ ((!true) = true) by decide)]
  have rAB : reprO ((eL (eL (eT3 eI eI eI))).enc [A, B]) = some ((eL (eL (eT3 eI eI eI))).enc [A, B]).shown := if_pos (regs_show (fun s ms => by have := bA s ms; omega) (fun s ms => by have := bB s ms; omega) (by omega) (by omega))
  refine bind_wp rAB ?_
  refine (compO_filterMap (fun c => if inB c D = true then some c else none) () C [] (by simp only [List.length_nil]; omega) fun c mc kc => by split <;> rfl).trans ?_
  rw [List.nil_append]
  obtain ⟨R3, r3, k3, j3⟩ := common_ok cA.1 cB.1 (Nat.le_trans (Nat.mul_le_mul (Nat.le_trans lA lC) (Nat.le_trans lB lD)) (by decide))
  obtain ⟨R4, r4, k4, j4, _⟩ := lregion_ok (L := C.filterMap fun c => if inB c D = true then some c else none) (Nat.le_trans (List.length_filterMap_le _ _) (by omega))
  have fm : ∀ (p : Int × Int) (E : List (Int × Int)), (p ∈ C.filterMap fun c => if inB c E = true then some c else none) ↔ p ∈ C ∧ p ∈ E := fun p E => by
    rw [List.mem_filterMap]
    constructor
    · rintro ⟨c, mc, q⟩
      split at q
      · rename_i z; cases q; exact ⟨mc, inB_iff.1 z⟩
      · cases q
    · rintro ⟨mc, q⟩
      exact ⟨p, mc, if_pos (inB_iff.2 q)⟩
  refine bind_wp r3 (bind_wp r4 ?_)
  rw [eq_can k3 k4 fun x y => by rw [j3, j4, fm, iA, iB], if_neg (by decide)]
  have fn : ∀ (p : Int × Int) (L E : List (Int × Int)), (p ∈ L.filterMap fun c => if (!inB c E) = true then some c else none) ↔ p ∈ L ∧ ¬ p ∈ E := fun p L E => by
    rw [List.mem_filterMap]
    constructor
    · rintro ⟨c, mc, q⟩
      split at q
      · rename_i z; cases q; exact ⟨mc, fun w => by rw [inB_iff.2 w] at z; exact absurd z (by decide)⟩
      · cases q
    · rintro ⟨mc, q⟩
      exact ⟨p, mc, if_pos (by rw [Bool.eq_false_iff.2 (fun w => q (inB_iff.1 w))]; rfl)⟩
  obtain ⟨R5, r5, k5, j5⟩ := united_ok cA.1 cB.1 (by omega)
  refine bind_wp r5 ?_
  refine (compO_filterMap (fun c => if (!inB c C) = true then some c else none) () D [] (by simp only [List.length_nil]; omega) fun c mc kc => by split <;> rfl).trans ?_
  rw [List.nil_append]
  have lDC : (D.filterMap fun c => if (!inB c C) = true then some c else none).length ≤ 49 := Nat.le_trans (List.length_filterMap_le _ _) lD
  refine ck_wp (decide_eq_true (by omega)) ?_
  obtain ⟨R6, r6, k6, j6, _⟩ := lregion_ok (L := C ++ D.filterMap fun c => if (!inB c C) = true then some c else none) (by rw [List.length_append]; omega)
  refine bind_wp r6 ?_
  rw [eq_can k5 k6 fun x y => by
    rw [j5, j6, List.mem_append, fn, iA, iB]
    by_cases z : (x, y) ∈ C
    · exact ⟨fun _ => .inl z, fun _ => .inl z⟩
    · exact ⟨fun q => q.imp id fun w => ⟨w, z⟩, fun q => q.imp id (·.1)⟩, if_neg (by decide)]
  obtain ⟨R7, r7, k7, j7⟩ := less_ok (A := A) cB (Nat.le_trans (Nat.mul_le_mul (Nat.le_trans lA lC) (Nat.succ_le_succ (Nat.le_trans lB lD))) (by decide))
  refine bind_wp r7 ?_
  refine (compO_filterMap (fun c => if (!inB c D) = true then some c else none) () C [] (by simp only [List.length_nil]; omega) fun c mc kc => by split <;> rfl).trans ?_
  rw [List.nil_append]
  obtain ⟨R8, r8, k8, j8, _⟩ := lregion_ok (L := C.filterMap fun c => if (!inB c D) = true then some c else none) (Nat.le_trans (List.length_filterMap_le _ _) (by omega))
  refine bind_wp r8 ?_
  rw [eq_can k7 k8 fun x y => by rw [j7, j8, fn, iA, iB], if_neg (by decide)]
  refine bind_wp (area_is cA ndC iA (by omega)) ?_
  rw [decide_eq_true rfl, if_neg (show ¬ ((!true) = true) by decide)]
  obtain ⟨dx, n5, v5, e5, a5, b5, c5⟩ := drawB_ok (n := n4) (v := v4) (sc := ns) c4 (show (0 : Int) < 9 by decide) (by decide)
  refine bind_wp e5 ?_
  dsimp only
  obtain ⟨dy, n6, v6, e6, a6, b6, c6⟩ := drawB_ok (n := n5) (v := v5) (sc := ns) c5 (show (0 : Int) < 9 by decide) (by decide)
  refine bind_wp e6 ?_
  dsimp only
  obtain ⟨R9, r9, k9, j9⟩ := moved_ok (R := A) (dx - 4) (dy - 4) (by omega) cA
  refine bind_wp r9 ?_
  refine (compO_map (fun c : Int × Int => (c.1 + (dx - 4), c.2 + (dy - 4))) () C [] (by simp only [List.length_nil]; omega) (fun _ _ _ => rfl)).trans ?_
  rw [List.nil_append]
  obtain ⟨R10, r10, k10, j10, _⟩ := lregion_ok (L := C.map fun c => (c.1 + (dx - 4), c.2 + (dy - 4))) (by rw [List.length_map]; omega)
  refine bind_wp r10 ?_
  rw [eq_can k9 k10 fun x y => by
    rw [j9, j10, iA, List.mem_map]
    constructor
    · intro q
      exact ⟨_, q, Prod.ext (by dsimp only; omega) (by dsimp only; omega)⟩
    · rintro ⟨c, mc, q⟩
      rw [Prod.mk.injEq] at q
      rw [show x - (dx - 4) = c.1 by omega, show y - (dy - 4) = c.2 by omega]; exact mc, if_neg (by decide)]
  obtain ⟨w, n7, v7, e7, a7, b7, c7⟩ := drawB_ok (n := n6) (v := v6) (sc := ns) c6 (show (0 : Int) < 8 by decide) (by decide)
  refine bind_wp e7 ?_
  dsimp only
  obtain ⟨w, rfl⟩ := Int.eq_ofNat_of_zero_le a7
  have hw : w < 8 := by omega
  have pm : (sortB lpp (cellsOf A)).Perm C := (List.mergeSort_perm _ _).trans (cells_perm cA ndC iA)
  obtain ⟨R11, r11, k11, j11, _⟩ := region_ok (L := (sortB lpp (cellsOf A)).map fun c => ((cellF w c.1 c.2).1 + (dx - 4), (cellF w c.1 c.2).2 + (dy - 4))) (by rw [List.length_map, pm.length_eq]; omega)
  have eput : m_put A (dx - 4, dy - 4, (w : Int)) = some R11 := by
    unfold m_put
    rw [cells_in_ok (fun s ms => by have := bA s ms; omega) (by omega), Option.bind_some]
    refine (compO_map (fun c : Int × Int => ((cellF w c.1 c.2).1 + (dx - 4), (cellF w c.1 c.2).2 + (dy - 4))) () _ [] (by rw [pm.length_eq]; simp only [List.length_nil]; omega) (fun c _ kc => by rw [pcell hw]; rfl)).trans ?_
    rw [List.nil_append, r11]; rfl
  refine bind_wp eput ?_
  refine (compO_map (fun c : Int × Int => ((cellF w c.1 c.2).1 + (dx - 4), (cellF w c.1 c.2).2 + (dy - 4))) () C [] (by simp only [List.length_nil]; omega) (fun c _ kc => by
    obtain ⟨x, y⟩ := c
    rw [pput hw]; rfl)).trans ?_
  rw [List.nil_append]
  obtain ⟨R12, r12, k12, j12, _⟩ := lregion_ok (L := C.map fun c => ((cellF w c.1 c.2).1 + (dx - 4), (cellF w c.1 c.2).2 + (dy - 4))) (by rw [List.length_map]; omega)
  refine bind_wp r12 ?_
  rw [eq_can k11 k12 fun x y => by
    rw [j11, j12, List.mem_map, List.mem_map]
    exact ⟨fun ⟨c, mc, q⟩ => ⟨c, pm.mem_iff.1 mc, q⟩, fun ⟨c, mc, q⟩ => ⟨c, pm.mem_iff.2 mc, q⟩⟩, if_neg (by decide)]
  -- what is told of bent spans
  have bent : ∀ (E : List Sp3), E.length ≤ 1000 → ∃ r t, m_spans_fault E = some r ∧ m__law_fault E = some r ∧ reprO (eD.enc r) = some t := fun E lE => by
    obtain ⟨r, hr, f1, f2⟩ := spans_two E (by omega)
    refine ⟨r, r.shown, f1, f2, if_pos ?_⟩
    rcases hr with rfl | ⟨k, hk, rfl⟩
    · exact none_show
    · exact span_show (by omega)
  obtain ⟨U, eU, cU, iU⟩ := united_ok cA.1 cB.1 (by omega)
  have lU : U.length ≤ 1000 := by
    have := Can.count (L := C ++ D) cU fun x y z => by
      rw [List.mem_append]
      exact ((iU x y).1 z).imp (iA x y).1 (iB x y).1
    rw [List.length_append] at this; omega
  have fc := fault_can cA (by omega)
  obtain ⟨due, hb, hs, hd⟩ : ∃ due : Option (Int × Int × Int × Int), m_box A = some due ∧ showOk ((eO (eT4 eI eI eI eI) (fun _ h => by cases h)).enc due) = true ∧ ((C = [] ∧ due = none) ∨ (C ≠ [] ∧ ∃ x0 x1 y0 y1, minI (C.map (·.1)) = some x0 ∧ maxI (C.map (·.1)) = some x1 ∧ minI (C.map (·.2)) = some y0 ∧ maxI (C.map (·.2)) = some y1 ∧ due = some (x0, y0, x1 - x0 + 1, y1 - y0 + 1))) := by
    by_cases hC : C = []
    · have hA : A = [] := List.eq_nil_of_length_eq_zero (by rw [hC] at lA; exact Nat.le_zero.1 lA)
      exact ⟨none, by rw [hA]; rfl, none_show, .inl ⟨hC, rfl⟩⟩
    · obtain ⟨x0, a0, a1, ex0⟩ := minI_ex (l := C.map (·.1)) (by simpa using hC)
      obtain ⟨x1, b0, b1, ex1⟩ := maxI_ex (l := C.map (·.1)) (by simpa using hC)
      obtain ⟨y0, c0, c1, ey0⟩ := minI_ex (l := C.map (·.2)) (by simpa using hC)
      obtain ⟨y1, d0, d1, ey1⟩ := maxI_ex (l := C.map (·.2)) (by simpa using hC)
      have bd : (0 ≤ x0 ∧ x0 < 7) ∧ (0 ≤ x1 ∧ x1 < 7) ∧ (0 ≤ y0 ∧ y0 < 7) ∧ (0 ≤ y1 ∧ y1 < 7) := by
        obtain ⟨p, mp, rfl⟩ := List.mem_map.1 a0
        obtain ⟨q, mq, rfl⟩ := List.mem_map.1 b0
        obtain ⟨r, mr, rfl⟩ := List.mem_map.1 c0
        obtain ⟨s, ms, rfl⟩ := List.mem_map.1 d0
        have := qC _ mp; have := qC _ mq; have := qC _ mr; have := qC _ ms
        omega
      exact ⟨_, box_ok cA iA (by omega) hC a0 a1 b0 b1 c0 c1 d0 d1, box_show (a := x0) (b := y0) (c := x1 - x0 + 1) (d := y1 - y0 + 1) (by omega) (by omega) (by omega) (by omega), .inr ⟨hC, x0, x1, y0, y1, ex0, ex1, ey0, ey1, rfl⟩⟩
  have tail : ∀ (E : List Sp3), E.length ≤ 1000 → ((m_spans_fault E).bind fun r924 => (reprO (eD.enc r924)).bind fun y925 => (m__law_fault E).bind fun r928 => (reprO (eD.enc r928)).bind fun y929 =>
      if (!decide (y925 = y929)) = true then some false else (m_united A B).bind fun r933 => ck (decide (List.length (List.map (eT3 eI eI eI).enc r933) < SZ)) ((reprO ((eL (eL (eT3 eI eI eI))).enc [A, B])).bind fun y943 => some (decide (y943 = ((eL (eL (eT3 eI eI eI))).enc [A, B]).shown)))) = some true := fun E lE => by
    obtain ⟨r, t, f1, f2, f3⟩ := bent E lE
    refine bind_wp f1 (bind_wp f3 (bind_wp f2 (bind_wp f3 ?_)))
    rw [decide_eq_true rfl, if_neg (show ¬ ((!true) = true) by decide)]
    refine bind_wp eU (ck_wp (decide_eq_true (by rw [List.length_map]; omega)) (bind_wp rAB ?_))
    rw [decide_eq_true rfl]
  have fin : (if (decide ((0 : Int) < (List.length A : Int))) = true then (
          (m__law_draw [n7, v7] ns (List.length A : Int)).bind fun r878 =>
          (atI A r878.1).bind fun y882 =>
          (m__law_pick r878.2 ns ([(y882.1, (y882.2.1 - (1 : Int)), y882.2.2), (y882.1, y882.2.1, (y882.2.2 + (1 : Int))), (y882.1, (y882.2.2 + (1 : Int)), y882.2.1), ((y882.1 + (1 : Int)), y882.2.1, y882.2.2)])).bind fun r907 =>
          (ixN (List.length A) r878.1).bind fun n922 =>
          (m__law_draw r907.2 ns (2 : Int)).bind fun r917 =>
          ck (decide (List.length (List.set A n922 r907.1) + List.length (cutL (List.set A n922 r907.1) none (some r917.1)) ≤ SZ)) ((m_spans_fault (List.set A n922 r907.1 ++ cutL (List.set A n922 r907.1) none (some r917.1))).bind fun r924 => (reprO (eD.enc r924)).bind fun y925 => (m__law_fault (List.set A n922 r907.1 ++ cutL (List.set A n922 r907.1) none (some r917.1))).bind fun r928 => (reprO (eD.enc r928)).bind fun y929 =>
      if (!decide (y925 = y929)) = true then some false else (m_united A B).bind fun r933 => ck (decide (List.length (List.map (eT3 eI eI eI).enc r933) < SZ)) ((reprO ((eL (eL (eT3 eI eI eI))).enc [A, B])).bind fun y943 => some (decide (y943 = ((eL (eL (eT3 eI eI eI))).enc [A, B]).shown)))))
      else ((m_spans_fault A).bind fun r924 => (reprO (eD.enc r924)).bind fun y925 => (m__law_fault A).bind fun r928 => (reprO (eD.enc r928)).bind fun y929 =>
      if (!decide (y925 = y929)) = true then some false else (m_united A B).bind fun r933 => ck (decide (List.length (List.map (eT3 eI eI eI).enc r933) < SZ)) ((reprO ((eL (eL (eT3 eI eI eI))).enc [A, B])).bind fun y943 => some (decide (y943 = ((eL (eL (eT3 eI eI eI))).enc [A, B]).shown))))) = some true := by
    by_cases z : (0 : Int) < (A.length : Int)
    · rw [decide_eq_true z, if_pos rfl]
      obtain ⟨at_, n8, v8, e8, a8, b8, c8⟩ := drawB_ok (n := n7) (v := v7) (sc := ns) c7 z (by omega)
      refine bind_wp e8 ?_
      dsimp only
      obtain ⟨k, hk, rfl, ek⟩ := atI_pos (xs := A) a8 b8
      refine bind_wp ek ?_
      obtain ⟨w4, n9, v9, e9, a9, b9, c9⟩ := drawB_ok (n := n8) (v := v8) (sc := ns) c8 (show (0 : Int) < 4 by decide) (by decide)
      have ep : ∀ L : List Sp3, L.length = 4 → ∃ s, m__law_pick [n8, v8] ns L = some (s, [n9, v9]) := fun L hL => by
        unfold m__law_pick
        rw [hL]
        obtain ⟨j, hj, e, ej⟩ := atI_pos (xs := L) a9 (by omega)
        exact ⟨_, bind_wp e9 (by dsimp only; rw [ej]; rfl)⟩
      obtain ⟨s, es⟩ := ep [(A[k].1, (A[k].2.1 - (1 : Int)), A[k].2.2), (A[k].1, A[k].2.1, (A[k].2.2 + (1 : Int))), (A[k].1, (A[k].2.2 + (1 : Int)), A[k].2.1), ((A[k].1 + (1 : Int)), A[k].2.1, A[k].2.2)] rfl
      refine bind_wp es (bind_wp (ixN_nat hk) ?_)
      dsimp only
      obtain ⟨w5, n10, v10, e10, a10, b10, c10⟩ := drawB_ok (n := n9) (v := v9) (sc := ns) c9 (show (0 : Int) < 2 by decide) (by decide)
      refine bind_wp e10 ?_
      have lc := cutL_len (A.set k s) none (some w5)
      rw [List.length_set] at lc
      refine ck_wp (decide_eq_true (by rw [List.length_set]; dsimp only; omega)) (tail _ (by rw [List.length_append, List.length_set]; dsimp only; omega))
    · rw [decide_eq_false z, if_neg (by decide)]
      exact tail A (by omega)
  rcases hd with ⟨hC, rfl⟩ | ⟨hC, x0, x1, y0, y1, ex0, ex1, ey0, ey1, rfl⟩
  · rw [decide_eq_true hC, if_neg (show ¬ ((!true) = true) by decide)]
    refine bind_wp hb (bind_wp (if_pos hs) (bind_wp (if_pos hs) ?_))
    rw [decide_eq_true rfl, if_neg (show ¬ ((!true) = true) by decide)]
    refine bind_wp fc ?_
    exact fin
  · rw [decide_eq_false hC, if_pos (show ((!false) = true) by decide)]
    refine (compO_map (fun c : Int × Int => c.1) () C [] (by simp only [List.length_nil]; omega) (fun _ _ _ => rfl)).trans ?_
    rw [List.nil_append]
    refine (compO_map (fun c : Int × Int => c.2) () C [] (by simp only [List.length_nil]; omega) (fun _ _ _ => rfl)).trans ?_
    rw [List.nil_append]
    refine bind_wp ex0 (bind_wp ey0 (bind_wp ex1 (bind_wp ex0 (bind_wp ey1 (bind_wp ey0 ?_)))))
    refine bind_wp hb (bind_wp (if_pos hs) (bind_wp (if_pos hs) ?_))
    rw [decide_eq_true rfl, if_neg (show ¬ ((!true) = true) by decide)]
    refine bind_wp fc ?_
    exact fin

/-- what the law's call promises -/
def spLaw (K : Fg) : Sp := fun vs H Q _ => ∃ (a : Addr) (ns : List Int), vs = [.ref a] ∧ SqL K H a (ns.map V.int) ∧ ns.length ≤ 63 ∧ ∀ H', Q (.bl true) H'
theorem ok_end {P : Program} {w : World} {K : Fg} {mg : Str → Option Value} {base : Heap} (fa : Fa K mg) : FnG P w K mg base 4 fa.f_law fa.fd_law ["script"] (spLaw K) :=
  (ok_law fa).weak fun vs H Q E h => by
    obtain ⟨a, ns, rfl, hS, hlen, q⟩ := h
    exact law_sp hS (law_true ns hlen) q
theorem all_mk {l : PySem.W.OpenLaw} {w : World} {K : Fg} {h : Heap} {mg : Str → Option Value} {fz f0 f1 f2 f3 f4 f5 f6 f7 f8 f9 f10 f11 f12 f13 f14 f15 f16 f17 f18 f19 : Addr} (X : K.In h) (G : h.Ns mainGlobals mg) (hfa : mg "law" = some (.ref fz))
    {od0 an0 : Option Addr} {sl0 : Array (Option Value)} {oc0 kV0 dc0 pm0 cd0 ct0 : Value}
    (a0 : PySem.W.nsIn K mainGlobals "turned" = some (some (.ref f0))) (l0 : K.lookup f0 = some ⟨oc0, od0, .func (PySem.W.fnOf "turned" "turned" (defArgs s_turned) (defBody s_turned) (defScope s_turned) .none kV0 dc0 pm0 an0 cd0 ct0), sl0⟩) (c0 : PySem.W.codeIn K cd0 "turned" = true) (k0 : PySem.W.keepIn K (.ref f0) = true)
    {od1 an1 : Option Addr} {sl1 : Array (Option Value)} {oc1 kV1 dc1 pm1 cd1 ct1 : Value}
    (a1 : PySem.W.nsIn K mainGlobals "placed_cell" = some (some (.ref f1))) (l1 : K.lookup f1 = some ⟨oc1, od1, .func (PySem.W.fnOf "placed_cell" "placed_cell" (defArgs s_placed_cell) (defBody s_placed_cell) (defScope s_placed_cell) .none kV1 dc1 pm1 an1 cd1 ct1), sl1⟩) (c1 : PySem.W.codeIn K cd1 "placed_cell" = true) (k1 : PySem.W.keepIn K (.ref f1) = true)
    {od2 an2 : Option Addr} {sl2 : Array (Option Value)} {oc2 kV2 dc2 pm2 cd2 ct2 : Value}
    (a2 : PySem.W.nsIn K mainGlobals "region_of" = some (some (.ref f2))) (l2 : K.lookup f2 = some ⟨oc2, od2, .func (PySem.W.fnOf "region_of" "region_of" (defArgs s_region_of) (defBody s_region_of) (defScope s_region_of) .none kV2 dc2 pm2 an2 cd2 ct2), sl2⟩) (c2 : PySem.W.codeIn K cd2 "region_of" = true) (k2 : PySem.W.keepIn K (.ref f2) = true)
    {od3 an3 : Option Addr} {sl3 : Array (Option Value)} {oc3 kV3 dc3 pm3 cd3 ct3 : Value}
    (a3 : PySem.W.nsIn K mainGlobals "cells_in" = some (some (.ref f3))) (l3 : K.lookup f3 = some ⟨oc3, od3, .func (PySem.W.fnOf "cells_in" "cells_in" (defArgs s_cells_in) (defBody s_cells_in) (defScope s_cells_in) .none kV3 dc3 pm3 an3 cd3 ct3), sl3⟩) (c3 : PySem.W.codeIn K cd3 "cells_in" = true) (k3 : PySem.W.keepIn K (.ref f3) = true)
    {od4 an4 : Option Addr} {sl4 : Array (Option Value)} {oc4 kV4 dc4 pm4 cd4 ct4 : Value}
    (a4 : PySem.W.nsIn K mainGlobals "joint" = some (some (.ref f4))) (l4 : K.lookup f4 = some ⟨oc4, od4, .func (PySem.W.fnOf "joint" "joint" (defArgs s_joint) (defBody s_joint) (defScope s_joint) .none kV4 dc4 pm4 an4 cd4 ct4), sl4⟩) (c4 : PySem.W.codeIn K cd4 "joint" = true) (k4 : PySem.W.keepIn K (.ref f4) = true)
    {od5 an5 : Option Addr} {sl5 : Array (Option Value)} {oc5 kV5 dc5 pm5 cd5 ct5 : Value}
    (a5 : PySem.W.nsIn K mainGlobals "united" = some (some (.ref f5))) (l5 : K.lookup f5 = some ⟨oc5, od5, .func (PySem.W.fnOf "united" "united" (defArgs s_united) (defBody s_united) (defScope s_united) .none kV5 dc5 pm5 an5 cd5 ct5), sl5⟩) (c5 : PySem.W.codeIn K cd5 "united" = true) (k5 : PySem.W.keepIn K (.ref f5) = true)
    {od6 an6 : Option Addr} {sl6 : Array (Option Value)} {oc6 kV6 dc6 pm6 cd6 ct6 : Value}
    (a6 : PySem.W.nsIn K mainGlobals "common" = some (some (.ref f6))) (l6 : K.lookup f6 = some ⟨oc6, od6, .func (PySem.W.fnOf "common" "common" (defArgs s_common) (defBody s_common) (defScope s_common) .none kV6 dc6 pm6 an6 cd6 ct6), sl6⟩) (c6 : PySem.W.codeIn K cd6 "common" = true) (k6 : PySem.W.keepIn K (.ref f6) = true)
    {od7 an7 : Option Addr} {sl7 : Array (Option Value)} {oc7 kV7 dc7 pm7 cd7 ct7 : Value}
    (a7 : PySem.W.nsIn K mainGlobals "less" = some (some (.ref f7))) (l7 : K.lookup f7 = some ⟨oc7, od7, .func (PySem.W.fnOf "less" "less" (defArgs s_less) (defBody s_less) (defScope s_less) .none kV7 dc7 pm7 an7 cd7 ct7), sl7⟩) (c7 : PySem.W.codeIn K cd7 "less" = true) (k7 : PySem.W.keepIn K (.ref f7) = true)
    {od8 an8 : Option Addr} {sl8 : Array (Option Value)} {oc8 kV8 dc8 pm8 cd8 ct8 : Value}
    (a8 : PySem.W.nsIn K mainGlobals "moved" = some (some (.ref f8))) (l8 : K.lookup f8 = some ⟨oc8, od8, .func (PySem.W.fnOf "moved" "moved" (defArgs s_moved) (defBody s_moved) (defScope s_moved) .none kV8 dc8 pm8 an8 cd8 ct8), sl8⟩) (c8 : PySem.W.codeIn K cd8 "moved" = true) (k8 : PySem.W.keepIn K (.ref f8) = true)
    {od9 an9 : Option Addr} {sl9 : Array (Option Value)} {oc9 kV9 dc9 pm9 cd9 ct9 : Value}
    (a9 : PySem.W.nsIn K mainGlobals "put" = some (some (.ref f9))) (l9 : K.lookup f9 = some ⟨oc9, od9, .func (PySem.W.fnOf "put" "put" (defArgs s_put) (defBody s_put) (defScope s_put) .none kV9 dc9 pm9 an9 cd9 ct9), sl9⟩) (c9 : PySem.W.codeIn K cd9 "put" = true) (k9 : PySem.W.keepIn K (.ref f9) = true)
    {od10 an10 : Option Addr} {sl10 : Array (Option Value)} {oc10 kV10 dc10 pm10 cd10 ct10 : Value}
    (a10 : PySem.W.nsIn K mainGlobals "area" = some (some (.ref f10))) (l10 : K.lookup f10 = some ⟨oc10, od10, .func (PySem.W.fnOf "area" "area" (defArgs s_area) (defBody s_area) (defScope s_area) .none kV10 dc10 pm10 an10 cd10 ct10), sl10⟩) (c10 : PySem.W.codeIn K cd10 "area" = true) (k10 : PySem.W.keepIn K (.ref f10) = true)
    {od11 an11 : Option Addr} {sl11 : Array (Option Value)} {oc11 kV11 dc11 pm11 cd11 ct11 : Value}
    (a11 : PySem.W.nsIn K mainGlobals "box" = some (some (.ref f11))) (l11 : K.lookup f11 = some ⟨oc11, od11, .func (PySem.W.fnOf "box" "box" (defArgs s_box) (defBody s_box) (defScope s_box) .none kV11 dc11 pm11 an11 cd11 ct11), sl11⟩) (c11 : PySem.W.codeIn K cd11 "box" = true) (k11 : PySem.W.keepIn K (.ref f11) = true)
    {od12 an12 : Option Addr} {sl12 : Array (Option Value)} {oc12 kV12 dc12 pm12 cd12 ct12 : Value}
    (a12 : PySem.W.nsIn K mainGlobals "spans_fault" = some (some (.ref f12))) (l12 : K.lookup f12 = some ⟨oc12, od12, .func (PySem.W.fnOf "spans_fault" "spans_fault" (defArgs s_spans_fault) (defBody s_spans_fault) (defScope s_spans_fault) .none kV12 dc12 pm12 an12 cd12 ct12), sl12⟩) (c12 : PySem.W.codeIn K cd12 "spans_fault" = true) (k12 : PySem.W.keepIn K (.ref f12) = true)
    {od13 an13 : Option Addr} {sl13 : Array (Option Value)} {oc13 kV13 dc13 pm13 cd13 ct13 : Value}
    (a13 : PySem.W.nsIn K mainGlobals "_law_draw" = some (some (.ref f13))) (l13 : K.lookup f13 = some ⟨oc13, od13, .func (PySem.W.fnOf "_law_draw" "_law_draw" (defArgs s__law_draw) (defBody s__law_draw) (defScope s__law_draw) .none kV13 dc13 pm13 an13 cd13 ct13), sl13⟩) (c13 : PySem.W.codeIn K cd13 "_law_draw" = true) (k13 : PySem.W.keepIn K (.ref f13) = true)
    {od14 an14 : Option Addr} {sl14 : Array (Option Value)} {oc14 kV14 dc14 pm14 cd14 ct14 : Value}
    (a14 : PySem.W.nsIn K mainGlobals "_law_pick" = some (some (.ref f14))) (l14 : K.lookup f14 = some ⟨oc14, od14, .func (PySem.W.fnOf "_law_pick" "_law_pick" (defArgs s__law_pick) (defBody s__law_pick) (defScope s__law_pick) .none kV14 dc14 pm14 an14 cd14 ct14), sl14⟩) (c14 : PySem.W.codeIn K cd14 "_law_pick" = true) (k14 : PySem.W.keepIn K (.ref f14) = true)
    {od15 an15 : Option Addr} {sl15 : Array (Option Value)} {oc15 kV15 dc15 pm15 cd15 ct15 : Value}
    (a15 : PySem.W.nsIn K mainGlobals "_law_blob" = some (some (.ref f15))) (l15 : K.lookup f15 = some ⟨oc15, od15, .func (PySem.W.fnOf "_law_blob" "_law_blob" (defArgs s__law_blob) (defBody s__law_blob) (defScope s__law_blob) .none kV15 dc15 pm15 an15 cd15 ct15), sl15⟩) (c15 : PySem.W.codeIn K cd15 "_law_blob" = true) (k15 : PySem.W.keepIn K (.ref f15) = true)
    {od16 an16 : Option Addr} {sl16 : Array (Option Value)} {oc16 kV16 dc16 pm16 cd16 ct16 : Value}
    (a16 : PySem.W.nsIn K mainGlobals "_law_region" = some (some (.ref f16))) (l16 : K.lookup f16 = some ⟨oc16, od16, .func (PySem.W.fnOf "_law_region" "_law_region" (defArgs s__law_region) (defBody s__law_region) (defScope s__law_region) .none kV16 dc16 pm16 an16 cd16 ct16), sl16⟩) (c16 : PySem.W.codeIn K cd16 "_law_region" = true) (k16 : PySem.W.keepIn K (.ref f16) = true)
    {od17 an17 : Option Addr} {sl17 : Array (Option Value)} {oc17 kV17 dc17 pm17 cd17 ct17 : Value}
    (a17 : PySem.W.nsIn K mainGlobals "_law_put" = some (some (.ref f17))) (l17 : K.lookup f17 = some ⟨oc17, od17, .func (PySem.W.fnOf "_law_put" "_law_put" (defArgs s__law_put) (defBody s__law_put) (defScope s__law_put) .none kV17 dc17 pm17 an17 cd17 ct17), sl17⟩) (c17 : PySem.W.codeIn K cd17 "_law_put" = true) (k17 : PySem.W.keepIn K (.ref f17) = true)
    {od18 an18 : Option Addr} {sl18 : Array (Option Value)} {oc18 kV18 dc18 pm18 cd18 ct18 : Value}
    (a18 : PySem.W.nsIn K mainGlobals "_law_fault" = some (some (.ref f18))) (l18 : K.lookup f18 = some ⟨oc18, od18, .func (PySem.W.fnOf "_law_fault" "_law_fault" (defArgs s__law_fault) (defBody s__law_fault) (defScope s__law_fault) .none kV18 dc18 pm18 an18 cd18 ct18), sl18⟩) (c18 : PySem.W.codeIn K cd18 "_law_fault" = true) (k18 : PySem.W.keepIn K (.ref f18) = true)
    {od19 an19 : Option Addr} {sl19 : Array (Option Value)} {oc19 kV19 dc19 pm19 cd19 ct19 : Value}
    (a19 : PySem.W.nsIn K mainGlobals "law" = some (some (.ref f19))) (l19 : K.lookup f19 = some ⟨oc19, od19, .func (PySem.W.fnOf "law" "law" (defArgs s_law) (defBody s_law) (defScope s_law) .none kV19 dc19 pm19 an19 cd19 ct19), sl19⟩) (c19 : PySem.W.codeIn K cd19 "law" = true) (k19 : PySem.W.keepIn K (.ref f19) = true)
    (z_enumerate : PySem.W.nsIn K mainGlobals "enumerate" = some none)
    (z_int : PySem.W.nsIn K mainGlobals "int" = some none)
    (z_len : PySem.W.nsIn K mainGlobals "len" = some none)
    (z_list : PySem.W.nsIn K mainGlobals "list" = some none)
    (z_max : PySem.W.nsIn K mainGlobals "max" = some none)
    (z_min : PySem.W.nsIn K mainGlobals "min" = some none)
    (z_range : PySem.W.nsIn K mainGlobals "range" = some none)
    (z_repr : PySem.W.nsIn K mainGlobals "repr" = some none)
    (z_sorted : PySem.W.nsIn K mainGlobals "sorted" = some none)
    (z_sum : PySem.W.nsIn K mainGlobals "sum" = some none) :
    ∃ fd : FuncData, (∀ (s : Shared) (v : Value), BindsTo s fd ⟨[v], []⟩ [("script", v)]) ∧ ∀ base : Heap, K.In base → base.Ns mainGlobals mg → FnG l.prog w K mg base 4 fz fd ["script"] (spLaw K) := by
  have e := hfa.symm.trans (PySem.W.mg_of X G a19)
  cases e
  exact ⟨PySem.W.fnOf "law" "law" (defArgs s_law) (defBody s_law) (defScope s_law) .none kV19 dc19 pm19 an19 cd19 ct19, fun s v => .of_eq rfl, fun base _ _ => ok_end (fa := { f_turned := f0, fd_turned := PySem.W.fnOf "turned" "turned" (defArgs s_turned) (defBody s_turned) (defScope s_turned) .none kV0 dc0 pm0 an0 cd0 ct0, F_turned := fun_mk (st := s_turned) l0 c0 k0, g_turned := PySem.W.mg_of X G a0, b_turned := (fun_mk (st := s_turned) l0 c0 k0).binds fun _ _ _ _ _ _ us hl => match us, hl with | [_, _, _], _ => rfl, f_placed_cell := f1, fd_placed_cell := PySem.W.fnOf "placed_cell" "placed_cell" (defArgs s_placed_cell) (defBody s_placed_cell) (defScope s_placed_cell) .none kV1 dc1 pm1 an1 cd1 ct1, F_placed_cell := fun_mk (st := s_placed_cell) l1 c1 k1, g_placed_cell := PySem.W.mg_of X G a1, b_placed_cell := (fun_mk (st := s_placed_cell) l1 c1 k1).binds fun _ _ _ _ _ _ us hl => match us, hl with | [_, _, _], _ => rfl, f_region_of := f2, fd_region_of := PySem.W.fnOf "region_of" "region_of" (defArgs s_region_of) (defBody s_region_of) (defScope s_region_of) .none kV2 dc2 pm2 an2 cd2 ct2, F_region_of := fun_mk (st := s_region_of) l2 c2 k2, g_region_of := PySem.W.mg_of X G a2, b_region_of := (fun_mk (st := s_region_of) l2 c2 k2).binds fun _ _ _ _ _ _ us hl => match us, hl with | [_], _ => rfl, f_cells_in := f3, fd_cells_in := PySem.W.fnOf "cells_in" "cells_in" (defArgs s_cells_in) (defBody s_cells_in) (defScope s_cells_in) .none kV3 dc3 pm3 an3 cd3 ct3, F_cells_in := fun_mk (st := s_cells_in) l3 c3 k3, g_cells_in := PySem.W.mg_of X G a3, b_cells_in := (fun_mk (st := s_cells_in) l3 c3 k3).binds fun _ _ _ _ _ _ us hl => match us, hl with | [_], _ => rfl, f_joint := f4, fd_joint := PySem.W.fnOf "joint" "joint" (defArgs s_joint) (defBody s_joint) (defScope s_joint) .none kV4 dc4 pm4 an4 cd4 ct4, F_joint := fun_mk (st := s_joint) l4 c4 k4, g_joint := PySem.W.mg_of X G a4, b_joint := (fun_mk (st := s_joint) l4 c4 k4).binds fun _ _ _ _ _ _ us hl => match us, hl with | [_], _ => rfl, f_united := f5, fd_united := PySem.W.fnOf "united" "united" (defArgs s_united) (defBody s_united) (defScope s_united) .none kV5 dc5 pm5 an5 cd5 ct5, F_united := fun_mk (st := s_united) l5 c5 k5, g_united := PySem.W.mg_of X G a5, b_united := (fun_mk (st := s_united) l5 c5 k5).binds fun _ _ _ _ _ _ us hl => match us, hl with | [_, _], _ => rfl, f_common := f6, fd_common := PySem.W.fnOf "common" "common" (defArgs s_common) (defBody s_common) (defScope s_common) .none kV6 dc6 pm6 an6 cd6 ct6, F_common := fun_mk (st := s_common) l6 c6 k6, g_common := PySem.W.mg_of X G a6, b_common := (fun_mk (st := s_common) l6 c6 k6).binds fun _ _ _ _ _ _ us hl => match us, hl with | [_, _], _ => rfl, f_less := f7, fd_less := PySem.W.fnOf "less" "less" (defArgs s_less) (defBody s_less) (defScope s_less) .none kV7 dc7 pm7 an7 cd7 ct7, F_less := fun_mk (st := s_less) l7 c7 k7, g_less := PySem.W.mg_of X G a7, b_less := (fun_mk (st := s_less) l7 c7 k7).binds fun _ _ _ _ _ _ us hl => match us, hl with | [_, _], _ => rfl, f_moved := f8, fd_moved := PySem.W.fnOf "moved" "moved" (defArgs s_moved) (defBody s_moved) (defScope s_moved) .none kV8 dc8 pm8 an8 cd8 ct8, F_moved := fun_mk (st := s_moved) l8 c8 k8, g_moved := PySem.W.mg_of X G a8, b_moved := (fun_mk (st := s_moved) l8 c8 k8).binds fun _ _ _ _ _ _ us hl => match us, hl with | [_, _, _], _ => rfl, f_put := f9, fd_put := PySem.W.fnOf "put" "put" (defArgs s_put) (defBody s_put) (defScope s_put) .none kV9 dc9 pm9 an9 cd9 ct9, F_put := fun_mk (st := s_put) l9 c9 k9, g_put := PySem.W.mg_of X G a9, b_put := (fun_mk (st := s_put) l9 c9 k9).binds fun _ _ _ _ _ _ us hl => match us, hl with | [_, _], _ => rfl, f_area := f10, fd_area := PySem.W.fnOf "area" "area" (defArgs s_area) (defBody s_area) (defScope s_area) .none kV10 dc10 pm10 an10 cd10 ct10, F_area := fun_mk (st := s_area) l10 c10 k10, g_area := PySem.W.mg_of X G a10, b_area := (fun_mk (st := s_area) l10 c10 k10).binds fun _ _ _ _ _ _ us hl => match us, hl with | [_], _ => rfl, f_box := f11, fd_box := PySem.W.fnOf "box" "box" (defArgs s_box) (defBody s_box) (defScope s_box) .none kV11 dc11 pm11 an11 cd11 ct11, F_box := fun_mk (st := s_box) l11 c11 k11, g_box := PySem.W.mg_of X G a11, b_box := (fun_mk (st := s_box) l11 c11 k11).binds fun _ _ _ _ _ _ us hl => match us, hl with | [_], _ => rfl, f_spans_fault := f12, fd_spans_fault := PySem.W.fnOf "spans_fault" "spans_fault" (defArgs s_spans_fault) (defBody s_spans_fault) (defScope s_spans_fault) .none kV12 dc12 pm12 an12 cd12 ct12, F_spans_fault := fun_mk (st := s_spans_fault) l12 c12 k12, g_spans_fault := PySem.W.mg_of X G a12, b_spans_fault := (fun_mk (st := s_spans_fault) l12 c12 k12).binds fun _ _ _ _ _ _ us hl => match us, hl with | [_], _ => rfl, f__law_draw := f13, fd__law_draw := PySem.W.fnOf "_law_draw" "_law_draw" (defArgs s__law_draw) (defBody s__law_draw) (defScope s__law_draw) .none kV13 dc13 pm13 an13 cd13 ct13, F__law_draw := fun_mk (st := s__law_draw) l13 c13 k13, g__law_draw := PySem.W.mg_of X G a13, b__law_draw := (fun_mk (st := s__law_draw) l13 c13 k13).binds fun _ _ _ _ _ _ us hl => match us, hl with | [_, _, _], _ => rfl, f__law_pick := f14, fd__law_pick := PySem.W.fnOf "_law_pick" "_law_pick" (defArgs s__law_pick) (defBody s__law_pick) (defScope s__law_pick) .none kV14 dc14 pm14 an14 cd14 ct14, F__law_pick := fun_mk (st := s__law_pick) l14 c14 k14, g__law_pick := PySem.W.mg_of X G a14, b__law_pick := (fun_mk (st := s__law_pick) l14 c14 k14).binds fun _ _ _ _ _ _ us hl => match us, hl with | [_, _, _], _ => rfl, f__law_blob := f15, fd__law_blob := PySem.W.fnOf "_law_blob" "_law_blob" (defArgs s__law_blob) (defBody s__law_blob) (defScope s__law_blob) .none kV15 dc15 pm15 an15 cd15 ct15, F__law_blob := fun_mk (st := s__law_blob) l15 c15 k15, g__law_blob := PySem.W.mg_of X G a15, b__law_blob := (fun_mk (st := s__law_blob) l15 c15 k15).binds fun _ _ _ _ _ _ us hl => match us, hl with | [_, _, _], _ => rfl, f__law_region := f16, fd__law_region := PySem.W.fnOf "_law_region" "_law_region" (defArgs s__law_region) (defBody s__law_region) (defScope s__law_region) .none kV16 dc16 pm16 an16 cd16 ct16, F__law_region := fun_mk (st := s__law_region) l16 c16 k16, g__law_region := PySem.W.mg_of X G a16, b__law_region := (fun_mk (st := s__law_region) l16 c16 k16).binds fun _ _ _ _ _ _ us hl => match us, hl with | [_], _ => rfl, f__law_put := f17, fd__law_put := PySem.W.fnOf "_law_put" "_law_put" (defArgs s__law_put) (defBody s__law_put) (defScope s__law_put) .none kV17 dc17 pm17 an17 cd17 ct17, F__law_put := fun_mk (st := s__law_put) l17 c17 k17, g__law_put := PySem.W.mg_of X G a17, b__law_put := (fun_mk (st := s__law_put) l17 c17 k17).binds fun _ _ _ _ _ _ us hl => match us, hl with | [_, _], _ => rfl, f__law_fault := f18, fd__law_fault := PySem.W.fnOf "_law_fault" "_law_fault" (defArgs s__law_fault) (defBody s__law_fault) (defScope s__law_fault) .none kV18 dc18 pm18 an18 cd18 ct18, F__law_fault := fun_mk (st := s__law_fault) l18 c18 k18, g__law_fault := PySem.W.mg_of X G a18, b__law_fault := (fun_mk (st := s__law_fault) l18 c18 k18).binds fun _ _ _ _ _ _ us hl => match us, hl with | [_], _ => rfl, f_law := fz, fd_law := PySem.W.fnOf "law" "law" (defArgs s_law) (defBody s_law) (defScope s_law) .none kV19 dc19 pm19 an19 cd19 ct19, F_law := fun_mk (st := s_law) l19 c19 k19, g_law := PySem.W.mg_of X G a19, b_law := (fun_mk (st := s_law) l19 c19 k19).binds fun _ _ _ _ _ _ us hl => match us, hl with | [_], _ => rfl, z_enumerate := PySem.W.mg_none_of X G z_enumerate, z_int := PySem.W.mg_none_of X G z_int, z_len := PySem.W.mg_none_of X G z_len, z_list := PySem.W.mg_none_of X G z_list, z_max := PySem.W.mg_none_of X G z_max, z_min := PySem.W.mg_none_of X G z_min, z_range := PySem.W.mg_none_of X G z_range, z_repr := PySem.W.mg_none_of X G z_repr, z_sorted := PySem.W.mg_none_of X G z_sorted, z_sum := PySem.W.mg_none_of X G z_sum })⟩
end My
open PySem PySem.W PyProof.Rows
set_option maxHeartbeats 0 in
theorem PySem.Challenge.cw_cutwright_k30_whole_regions_holds : PySem.Challenge.rw_cutwright_k30_whole_regions.Holds := by
  w_on; o_law; k_head; (case hw => w_witness2)
  k_fill
  refine Z.walkG (l := PySem.Challenge.rw_cutwright_k30_whole_regions) (n := 63) (k := 4) (x := "script") (sp := fun w => My.spLaw _) rfl (by decide) rfl ⟨rfl, by decide, by decide⟩ (fun w h Y => PySem.W.kIn_of Y) ?F (fun _ _ a ns hl _ hS => ⟨a, ns, rfl, hS, hl, fun _ => rfl⟩)
  case F =>
    intro w mg fa h KX G hmg
    refine' My.all_mk KX G hmg ?a0 ?l0 ?c0 ?k0 ?a1 ?l1 ?c1 ?k1 ?a2 ?l2 ?c2 ?k2 ?a3 ?l3 ?c3 ?k3 ?a4 ?l4 ?c4 ?k4 ?a5 ?l5 ?c5 ?k5 ?a6 ?l6 ?c6 ?k6 ?a7 ?l7 ?c7 ?k7 ?a8 ?l8 ?c8 ?k8 ?a9 ?l9 ?c9 ?k9 ?a10 ?l10 ?c10 ?k10 ?a11 ?l11 ?c11 ?k11 ?a12 ?l12 ?c12 ?k12 ?a13 ?l13 ?c13 ?k13 ?a14 ?l14 ?c14 ?k14 ?a15 ?l15 ?c15 ?k15 ?a16 ?l16 ?c16 ?k16 ?a17 ?l17 ?c17 ?k17 ?a18 ?l18 ?c18 ?k18 ?a19 ?l19 ?c19 ?k19 ?z_enumerate ?z_int ?z_len ?z_list ?z_max ?z_min ?z_range ?z_repr ?z_sorted ?z_sum
    (case a0 => k_is); (case l0 => k_is); (case c0 => k_is); (case k0 => k_is)
    (case a1 => k_is); (case l1 => k_is); (case c1 => k_is); (case k1 => k_is)
    (case a2 => k_is); (case l2 => k_is); (case c2 => k_is); (case k2 => k_is)
    (case a3 => k_is); (case l3 => k_is); (case c3 => k_is); (case k3 => k_is)
    (case a4 => k_is); (case l4 => k_is); (case c4 => k_is); (case k4 => k_is)
    (case a5 => k_is); (case l5 => k_is); (case c5 => k_is); (case k5 => k_is)
    (case a6 => k_is); (case l6 => k_is); (case c6 => k_is); (case k6 => k_is)
    (case a7 => k_is); (case l7 => k_is); (case c7 => k_is); (case k7 => k_is)
    (case a8 => k_is); (case l8 => k_is); (case c8 => k_is); (case k8 => k_is)
    (case a9 => k_is); (case l9 => k_is); (case c9 => k_is); (case k9 => k_is)
    (case a10 => k_is); (case l10 => k_is); (case c10 => k_is); (case k10 => k_is)
    (case a11 => k_is); (case l11 => k_is); (case c11 => k_is); (case k11 => k_is)
    (case a12 => k_is); (case l12 => k_is); (case c12 => k_is); (case k12 => k_is)
    (case a13 => k_is); (case l13 => k_is); (case c13 => k_is); (case k13 => k_is)
    (case a14 => k_is); (case l14 => k_is); (case c14 => k_is); (case k14 => k_is)
    (case a15 => k_is); (case l15 => k_is); (case c15 => k_is); (case k15 => k_is)
    (case a16 => k_is); (case l16 => k_is); (case c16 => k_is); (case k16 => k_is)
    (case a17 => k_is); (case l17 => k_is); (case c17 => k_is); (case k17 => k_is)
    (case a18 => k_is); (case l18 => k_is); (case c18 => k_is); (case k18 => k_is)
    (case a19 => k_is); (case l19 => k_is); (case c19 => k_is); (case k19 => k_is)
    (case z_enumerate => k_is)
    (case z_int => k_is)
    (case z_len => k_is)
    (case z_list => k_is)
    (case z_max => k_is)
    (case z_min => k_is)
    (case z_range => k_is)
    (case z_repr => k_is)
    (case z_sorted => k_is)
    (case z_sum => k_is)

