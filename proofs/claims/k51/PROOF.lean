import PyProof.Rows.All
import HandS.ForMost
import HandS.Wide
import KE.SortData
import KE.DataMinMax
import HandS.IsInst
import PyProof.ReprRoads
import HandS.Deep
import PyProof.ReprBulk
import HandS.Style
import HandS.TupLe
import HandS.TupAny
import HandS.Strs
import HandS.TupSets
import HandS.Conv
import PySem.Challenge.RW_cutwright_k51_whole_uneven_verdicts
set_option Elab.async false
set_option linter.all false
set_option maxRecDepth 100000
set_option Elab.async false
set_option linter.all false
set_option maxRecDepth 100000
namespace Z
open PySem PySem.Spec PyProof.Rows L2

abbrev Fg := PySem.W.Frag
def keyD : Key → PyData
  | .inl i => .int i
  | .inr s => .str s

mutual
inductive Rep (K : Fg) (F : Hp) : V → PyData → Prop
  | non : Rep K F .non .none
  | bl (b : Bool) : Rep K F (.bl b) (.bool b)
  | int (i : Int) : Rep K F (.int i) (.int i)
  | str (x : Str) : Rep K F (.str x) (.str x)
  | lst {a : Addr} {xs : List V} {ds : List PyData} : F a = some (.lst xs) → RepAll K F xs ds → Rep K F (.ref a) (.list ds)
  | tup {a : Addr} {xs : List V} {ds : List PyData} : SqT K F a xs → RepAll K F xs ds → Rep K F (.ref a) (.tuple ds)
  | dK {a : Addr} {kvs : List (Key × V)} {ds : List PyData} : Rd F a (.dK kvs) → RepAll K F (kvs.map (·.2)) ds → Rep K F (.ref a) (.dict ((kvs.map fun p => keyD p.1).zip ds))
  | dT {a : Addr} {kvs : List (List Key × V)} {ds : List PyData} : Rd F a (.dT kvs) → RepAll K F (kvs.map (·.2)) ds → Rep K F (.ref a) (.dict ((kvs.map fun p => PyData.tuple (p.1.map keyD)).zip ds))
inductive RepAll (K : Fg) (F : Hp) : List V → List PyData → Prop
  | nil : RepAll K F [] []
  | cons {v : V} {vs : List V} {d : PyData} {ds : List PyData} : Rep K F v d → RepAll K F vs ds → RepAll K F (v :: vs) (d :: ds)
end

theorem same_rd {F F' : Hp} (s : Same F F') {a : Addr} {u : HO} (h : Rd F a u) : Rd F' a u := by
  rcases h with h | ⟨o, h⟩
  · exact .inl (s _ _ h)
  · exact .inr ⟨o, s _ _ h⟩
theorem same_sqT {K : Fg} {F F' : Hp} (s : Same F F') {a : Addr} {xs : List V} (h : SqT K F a xs) : SqT K F' a xs := by
  rcases h with h | h
  · exact .inl (same_rd s h)
  · exact .inr h
mutual
theorem Rep.mono {K : Fg} {F F' : Hp} (s : Same F F') : ∀ {v : V} {d : PyData}, Rep K F v d → Rep K F' v d
  | _, _, .non => .non
  | _, _, .bl b => .bl b
  | _, _, .int i => .int i
  | _, _, .str x => .str x
  | _, _, .lst h r => .lst (s _ _ h) (RepAll.mono s r)
  | _, _, .tup h r => .tup (same_sqT s h) (RepAll.mono s r)
  | _, _, .dK h r => .dK (same_rd s h) (RepAll.mono s r)
  | _, _, .dT h r => .dT (same_rd s h) (RepAll.mono s r)
theorem RepAll.mono {K : Fg} {F F' : Hp} (s : Same F F') : ∀ {vs : List V} {ds : List PyData}, RepAll K F vs ds → RepAll K F' vs ds
  | _, _, .nil => .nil
  | _, _, .cons h r => .cons (Rep.mono s h) (RepAll.mono s r)
end
theorem RepAll.length {K : Fg} {F : Hp} : ∀ {vs : List V} {ds : List PyData}, RepAll K F vs ds → vs.length = ds.length
  | _, _, .nil => rfl
  | _, _, .cons _ r => congrArg (· + 1) (RepAll.length r)
theorem RepAll.app {K : Fg} {F : Hp} : ∀ {vs ws : List V} {ds es : List PyData}, RepAll K F vs ds → RepAll K F ws es → RepAll K F (vs ++ ws) (ds ++ es)
  | _, _, _, _, .nil, q => q
  | _, _, _, _, .cons h r, q => .cons h (RepAll.app r q)
theorem RepAll.get {K : Fg} {F : Hp} : ∀ {vs : List V} {ds : List PyData} {i : Nat} {d : PyData}, RepAll K F vs ds → ds[i]? = some d → ∃ v, vs[i]? = some v ∧ Rep K F v d
  | _, _, _, _, .nil, e => by simp at e
  | _, _, 0, _, .cons h _, e => ⟨_, rfl, by simp at e; exact e ▸ h⟩
  | _, _, i + 1, _, .cons _ r, e => by
    obtain ⟨v, h1, h2⟩ := RepAll.get (i := i) r (by simpa using e)
    exact ⟨v, by simpa using h1, h2⟩
theorem RepAll.getv {K : Fg} {F : Hp} : ∀ {vs : List V} {ds : List PyData} {i : Nat} {v : V}, RepAll K F vs ds → vs[i]? = some v → ∃ d, ds[i]? = some d ∧ Rep K F v d
  | _, _, _, _, .nil, e => by simp at e
  | _, _, 0, _, .cons h _, e => ⟨_, rfl, by simp at e; exact e ▸ h⟩
  | _, _, i + 1, _, .cons _ r, e => by
    obtain ⟨v, h1, h2⟩ := RepAll.getv (i := i) r (by simpa using e)
    exact ⟨v, by simpa using h1, h2⟩
theorem RepAll.set {K : Fg} {F : Hp} {v : V} {d : PyData} (h : Rep K F v d) : ∀ {vs : List V} {ds : List PyData} {i : Nat}, RepAll K F vs ds → RepAll K F (vs.set i v) (ds.set i d)
  | _, _, _, .nil => .nil
  | _, _, 0, .cons _ r => .cons h r
  | _, _, i + 1, .cons q r => .cons q (RepAll.set h r)
theorem RepAll.take {K : Fg} {F : Hp} : ∀ {vs : List V} {ds : List PyData} (n : Nat), RepAll K F vs ds → RepAll K F (vs.take n) (ds.take n)
  | _, _, 0, _ => .nil
  | _, _, _ + 1, .nil => .nil
  | _, _, n + 1, .cons h r => .cons h (RepAll.take n r)
theorem RepAll.drop {K : Fg} {F : Hp} : ∀ {vs : List V} {ds : List PyData} (n : Nat), RepAll K F vs ds → RepAll K F (vs.drop n) (ds.drop n)
  | _, _, 0, r => r
  | _, _, _ + 1, .nil => .nil
  | _, _, n + 1, .cons _ r => RepAll.drop n r

/-! ### what a value of Lean stands for -/
structure Enc (τ : Type) where
  enc : τ → PyData
  inj : ∀ a b, enc a = enc b → a = b
def eI : Enc Int := ⟨.int, fun _ _ h => by injection h⟩
def eB : Enc Bool := ⟨.bool, fun _ _ h => by injection h⟩
def eS : Enc Str := ⟨.str, fun _ _ h => by injection h⟩
def eN : Enc Unit := ⟨fun _ => .none, fun _ _ _ => rfl⟩
def eD : Enc PyData := ⟨id, fun _ _ h => h⟩
theorem map_inj {α β : Type} {f : α → β} (h : ∀ a b, f a = f b → a = b) : ∀ {xs ys : List α}, xs.map f = ys.map f → xs = ys
  | [], [], _ => rfl
  | [], _ :: _, e => by simp at e
  | _ :: _, [], e => by simp at e
  | x :: xs, y :: ys, e => by
    simp only [List.map_cons, List.cons.injEq] at e
    rw [h _ _ e.1, map_inj h e.2]
def eL {τ : Type} (E : Enc τ) : Enc (List τ) := ⟨fun xs => .list (xs.map E.enc), fun _ _ h => map_inj E.inj (by injection h)⟩
def eV {τ : Type} (E : Enc τ) : Enc (List τ) := ⟨fun xs => .tuple (xs.map E.enc), fun _ _ h => map_inj E.inj (by injection h)⟩
def eT2 {α β : Type} (A : Enc α) (B : Enc β) : Enc (α × β) := ⟨fun p => .tuple [A.enc p.1, B.enc p.2], fun a b h => by
  injection h with h
  simp only [List.cons.injEq, and_true] at h
  exact Prod.ext (A.inj _ _ h.1) (B.inj _ _ h.2)⟩
def eT3 {α β γ : Type} (A : Enc α) (B : Enc β) (G : Enc γ) : Enc (α × β × γ) := ⟨fun p => .tuple [A.enc p.1, B.enc p.2.1, G.enc p.2.2], fun a b h => by
  injection h with h
  simp only [List.cons.injEq, and_true] at h
  exact Prod.ext (A.inj _ _ h.1) (Prod.ext (B.inj _ _ h.2.1) (G.inj _ _ h.2.2))⟩
def eT4 {α β γ δ : Type} (A : Enc α) (B : Enc β) (G : Enc γ) (D : Enc δ) : Enc (α × β × γ × δ) := ⟨fun p => .tuple [A.enc p.1, B.enc p.2.1, G.enc p.2.2.1, D.enc p.2.2.2], fun a b h => by
  injection h with h
  simp only [List.cons.injEq, and_true] at h
  exact Prod.ext (A.inj _ _ h.1) (Prod.ext (B.inj _ _ h.2.1) (Prod.ext (G.inj _ _ h.2.2.1) (D.inj _ _ h.2.2.2)))⟩
def eT5 {α β γ δ ε : Type} (A : Enc α) (B : Enc β) (G : Enc γ) (D : Enc δ) (E : Enc ε) : Enc (α × β × γ × δ × ε) := ⟨fun p => .tuple [A.enc p.1, B.enc p.2.1, G.enc p.2.2.1, D.enc p.2.2.2.1, E.enc p.2.2.2.2], fun a b h => by
  injection h with h
  simp only [List.cons.injEq, and_true] at h
  exact Prod.ext (A.inj _ _ h.1) (Prod.ext (B.inj _ _ h.2.1) (Prod.ext (G.inj _ _ h.2.2.1) (Prod.ext (D.inj _ _ h.2.2.2.1) (E.inj _ _ h.2.2.2.2))))⟩
def eO {τ : Type} (E : Enc τ) (hn : ∀ a, E.enc a ≠ .none) : Enc (Option τ) := ⟨fun o => match o with | none => .none | some a => E.enc a, fun a b h => by
  cases a <;> cases b
  · rfl
  · exact absurd h.symm (hn _)
  · exact absurd h (hn _)
  · exact congrArg some (E.inj _ _ h)⟩

/-! ### how a slot holds a value: shared data, or objects of its own -/
def grow (F H : Hp) (fp : List Addr) : Hp := fun a => if a ∈ fp then H a else F a
structure Stor (τ : Type) where
  rel : Fg → Hp → Hp → List Addr → V → τ → Prop
  monoF : ∀ {K F F' H fp v x}, Same F F' → rel K F H fp v x → rel K F' H fp v x
  frame : ∀ {K F H H' fp v x}, (∀ a ∈ fp, H' a = H a) → rel K F H fp v x → rel K F H' fp v x
/-- it may be made shared data -/
structure Frz {τ : Type} (S : Stor τ) (E : Enc τ) : Prop where
  frz : ∀ {K F H fp v x}, (∀ a ∈ fp, F a = none) → S.rel K F H fp v x → Rep K (grow F H fp) v (E.enc x)
/-- it owns nothing: it may be told twice -/
structure Cp {τ : Type} (S : Stor τ) : Prop where
  nil : ∀ {K F H fp v x}, S.rel K F H fp v x → fp = []
theorem grow_nil {F H : Hp} : grow F H [] = F := by funext a; simp [grow]
theorem same_grow {F H : Hp} {fp : List Addr} (h : ∀ a ∈ fp, F a = none) : Same F (grow F H fp) := fun a o e => by
  unfold grow
  by_cases m : a ∈ fp
  · rw [h a m] at e; cases e
  · rw [if_neg m]; exact e
theorem grow_sub {F H : Hp} {fp fq : List Addr} (h : ∀ a ∈ fq, F a = none) (s : ∀ a ∈ fp, a ∈ fq) : Same (grow F H fp) (grow F H fq) := fun a o e => by
  unfold grow at e ⊢
  by_cases m : a ∈ fp
  · rw [if_pos m] at e; rw [if_pos (s a m)]; exact e
  · rw [if_neg m] at e
    by_cases m' : a ∈ fq
    · rw [h a m'] at e; cases e
    · rw [if_neg m']; exact e
def it {τ : Type} (E : Enc τ) : Stor τ where
  rel := fun K F _ fp v x => fp = [] ∧ Rep K F v (E.enc x)
  monoF := fun s h => ⟨h.1, h.2.mono s⟩
  frame := fun _ h => h
theorem fz_it {τ : Type} {E : Enc τ} : Frz (it E) E := ⟨fun _ h => by obtain ⟨rfl, r⟩ := h; rw [grow_nil]; exact r⟩
theorem cp_it {τ : Type} {E : Enc τ} : Cp (it E) := ⟨fun h => h.1⟩
/-- a list of ints that stands for good (the script) -/
def scr : Stor (List Int) where
  rel := fun K F _ fp v xs => fp = [] ∧ ∃ a, v = .ref a ∧ SqL K F a (xs.map V.int)
  monoF := fun s h => by obtain ⟨e, a, e2, q⟩ := h; exact ⟨e, a, e2, s.seq q⟩
  frame := fun _ h => h
theorem cp_scr : Cp scr := ⟨fun h => h.1⟩
inductive RelAll {τ : Type} (R : List Addr → V → τ → Prop) : List Addr → List V → List τ → Prop
  | nil : RelAll R [] [] []
  | cons {fp fps v vs x xs} : R fp v x → RelAll R fps vs xs → RelAll R (fp ++ fps) (v :: vs) (x :: xs)
theorem RelAll.imp {τ : Type} {R R' : List Addr → V → τ → Prop} : ∀ {fp : List Addr} {vs : List V} {xs : List τ}, (∀ fq v x, (∀ a ∈ fq, a ∈ fp) → R fq v x → R' fq v x) → RelAll R fp vs xs → RelAll R' fp vs xs
  | _, _, _, _, .nil => .nil
  | _, _, _, f, .cons h r => .cons (f _ _ _ (fun a m => List.mem_append_left _ m) h) (RelAll.imp (fun fq v x s q => f fq v x (fun a m => List.mem_append_right _ (s a m)) q) r)
theorem RelAll.rep {τ : Type} {E : Enc τ} {K : Fg} {F : Hp} {R : List Addr → V → τ → Prop} : ∀ {fp : List Addr} {vs : List V} {xs : List τ}, (∀ fq v x, (∀ a ∈ fq, a ∈ fp) → R fq v x → Rep K F v (E.enc x)) → RelAll R fp vs xs → RepAll K F vs (xs.map E.enc)
  | _, _, _, _, .nil => .nil
  | _, _, _, f, .cons h r => .cons (f _ _ _ (fun a m => List.mem_append_left _ m) h) (RelAll.rep (fun fq v x s q => f fq v x (fun a m => List.mem_append_right _ (s a m)) q) r)
def ls {τ : Type} (S : Stor τ) : Stor (List τ) where
  rel := fun K F H fp v xs => ∃ p vs fps, v = .ref p ∧ H p = some (.lst vs) ∧ RelAll (S.rel K F H) fps vs xs ∧ fp = p :: fps
  monoF := fun s h => by
    obtain ⟨p, vs, fps, rfl, hp, r, rfl⟩ := h
    exact ⟨p, vs, fps, rfl, hp, r.imp fun _ _ _ _ q => S.monoF s q, rfl⟩
  frame := fun f h => by
    obtain ⟨p, vs, fps, rfl, hp, r, rfl⟩ := h
    exact ⟨p, vs, fps, rfl, by rw [f p List.mem_cons_self]; exact hp, r.imp fun fq _ _ s q => S.frame (fun a m => f a (List.mem_cons_of_mem _ (s a m))) q, rfl⟩
theorem fz_ls {τ : Type} {S : Stor τ} {E : Enc τ} (fz : Frz S E) : Frz (ls S) (eL E) := ⟨fun n h => by
  obtain ⟨p, vs, fps, rfl, hp, r, rfl⟩ := h
  refine .lst ?_ (r.rep fun fq v x s q => ?_)
  · show (if p ∈ p :: fps then _ else _) = _
    rw [if_pos List.mem_cons_self]; exact hp
  · exact (fz.frz (fun a m => n a (List.mem_cons_of_mem _ (s a m))) q).mono (grow_sub n fun a m => List.mem_cons_of_mem _ (s a m))⟩

inductive Slot : Type 1
  | un
  | st (w : Option V) (τ : Type) (S : Stor τ) (x : τ)
  | lk (τ : Type) (S : Stor τ) (x : τ)
abbrev Env := List Slot
abbrev Slot.sh {τ : Type} (E : Enc τ) (x : τ) : Slot := .st none τ (it E) x
abbrev Slot.ow {τ : Type} (S : Stor τ) (x : τ) : Slot := .st none τ S x

structure Ck where
  K : Fg
  B : Hp
  F0 : Hp
  He : Hp
  io : List Addr
def SlotOk (C : Ck) (F H : Hp) (o : Option V) : Slot → List Addr → Prop
  | .un, fp => fp = []
  | .st w _ S x, fp => ∃ v, o = some v ∧ S.rel C.K F H fp v x ∧ (match w with | none => ∀ a ∈ fp, C.He a = none | some v0 => v = v0 ∧ ∀ a ∈ fp, C.He a = none ∨ a ∈ C.io)
  | .lk _ S x, fp => fp = [] ∧ ∃ v fq, o = some v ∧ S.rel C.K F H fq v x ∧ ∀ a ∈ fq, C.B a ≠ none
theorem SlotOk.go {C : Ck} {F F' H H' : Hp} {o : Option V} {s : Slot} {fp : List Addr} (sF : Same F F') (hB : ∀ a, C.B a ≠ none → H' a = H a) (h : ∀ a ∈ fp, H' a = H a) (k : SlotOk C F H o s fp) : SlotOk C F' H' o s fp := by
  cases s with
  | un => exact k
  | st w τ S x => obtain ⟨v, e, r, q⟩ := k; exact ⟨v, e, S.monoF sF (S.frame h r), q⟩
  | lk τ S x => obtain ⟨e, v, fq, e2, r, q⟩ := k; exact ⟨e, v, fq, e2, S.monoF sF (S.frame (fun a m => hB a (q a m)) r), q⟩
/-- the footprints of the slots -/
structure Fps (C : Ck) (F H : Hp) (σ : List (Option V)) (env : Env) (fp : Nat → List Addr) : Prop where
  ok : ∀ i s, env[i]? = some s → SlotOk C F H (σ[i]?.join) s (fp i)
  own : ∀ i, i < env.length → ∀ a ∈ fp i, C.B a = none ∧ F a = none ∧ H a ≠ none
  sep : ∀ i j, i < env.length → j < env.length → ∀ a, a ∈ fp i → a ∈ fp j → i = j
  nd : ∀ i, i < env.length → (fp i).Nodup
structure ER (C : Ck) (F H : Hp) (σ : List (Option V)) (env : Env) : Prop where
  sB : Same C.B H
  sF : Same F H
  gr : ∀ a, F a ≠ none → C.F0 a ≠ none ∨ C.He a = none
  up : ∀ a, C.He a ≠ none → H a ≠ none
  len : σ.length = env.length
  sl : ∃ fp, Fps C F H σ env fp

section
variable {C : Ck} {F F' H H' : Hp} {σ : List (Option V)} {env : Env} {o : Option V} {s : Slot} {τ : Type} {S : Stor τ} {E : Enc τ} {x : τ} {v : V} {w : Option V} {i : Nat} {p : Addr} {u : HO}
theorem same_some {H H' : Hp} (s : Same H H') {a : Addr} (h : H a ≠ none) : H' a ≠ none := by
  cases e : H a with
  | none => exact absurd e h
  | some o => rw [s a o e]; exact fun z => by cases z
theorem same_eq {H H' : Hp} (s : Same H H') {a : Addr} (h : H a ≠ none) : H' a = H a := by
  cases e : H a with
  | none => exact absurd e h
  | some o => exact s a o e
theorem ER.look (h : ER C F H σ env) (e : env[i]? = some (.st w τ S x)) : ∃ v fp, σ[i]? = some (some v) ∧ S.rel C.K F H fp v x := by
  obtain ⟨fp, q⟩ := h.sl
  obtain ⟨v, e1, r, _⟩ := q.ok i _ e
  refine ⟨v, fp i, ?_, r⟩
  cases z : σ[i]? with
  | none => rw [z] at e1; cases e1
  | some o => rw [z] at e1; exact congrArg some e1
theorem ER.lookK (h : ER C F H σ env) (e : env[i]? = some (.lk τ S x)) : ∃ v fp, σ[i]? = some (some v) ∧ S.rel C.K F H fp v x := by
  obtain ⟨fp, q⟩ := h.sl
  obtain ⟨_, v, fq, e1, r, _⟩ := q.ok i _ e
  refine ⟨v, fq, ?_, r⟩
  cases z : σ[i]? with
  | none => rw [z] at e1; cases e1
  | some o => rw [z] at e1; exact congrArg some e1
theorem ER.rep (h : ER C F H σ env) (e : env[i]? = some (.st w τ (it E) x)) : ∃ v, σ[i]? = some (some v) ∧ Rep C.K F v (E.enc x) := by
  obtain ⟨v, fp, e1, r⟩ := h.look e
  exact ⟨v, e1, r.2⟩
theorem Fps.push {fp : Nat → List Addr} (q : Fps C F H σ env fp) {fq : List Addr} (ok : SlotOk C F H o s fq) (ow : ∀ a ∈ fq, C.B a = none ∧ F a = none ∧ H a ≠ none) (nd : fq.Nodup) (df : ∀ i, i < env.length → ∀ a ∈ fp i, a ∉ fq) :
    Fps C F H (o :: σ) (s :: env) (fun | 0 => fq | i + 1 => fp i) := by
  refine ⟨?_, ?_, ?_, ?_⟩
  · intro i s' e
    cases i with
    | zero => simp at e; subst e; exact ok
    | succ i => exact q.ok i s' (by simpa using e)
  · intro i hi a ha
    cases i with
    | zero => exact ow a ha
    | succ i => exact q.own i (by simpa using hi) a ha
  · intro i j hi hj a ha hb
    cases i with
    | zero => cases j with
      | zero => rfl
      | succ j => exact absurd ha (df j (by simpa using hj) a hb)
    | succ i => cases j with
      | zero => exact absurd hb (df i (by simpa using hi) a ha)
      | succ j => exact congrArg (· + 1) (q.sep i j (by simpa using hi) (by simpa using hj) a ha hb)
  · intro i hi
    cases i with
    | zero => exact nd
    | succ i => exact q.nd i (by simpa using hi)
theorem ER.push0 (h : ER C F H σ env) (ok : SlotOk C F H o s []) : ER C F H (o :: σ) (s :: env) := by
  obtain ⟨fp, q⟩ := h.sl
  exact ⟨h.sB, h.sF, h.gr, h.up, by simp [h.len], _, q.push ok (fun _ m => nomatch m) List.nodup_nil fun _ _ _ _ m => nomatch m⟩
theorem ER.pushSh (h : ER C F H σ env) (r : Rep C.K F v (E.enc x)) : ER C F H (some v :: σ) (.st none τ (it E) x :: env) :=
  h.push0 ⟨v, rfl, ⟨rfl, r⟩, fun _ m => nomatch m⟩
theorem ER.pushUn (h : ER C F H σ env) : ER C F H (o :: σ) (.un :: env) := h.push0 rfl
theorem ER.pop (h : ER C F H (o :: σ) (s :: env)) : ER C F H σ env := by
  obtain ⟨fp, q⟩ := h.sl
  exact ⟨h.sB, h.sF, h.gr, h.up, by simpa using h.len, fun i => fp (i + 1), fun i s e => q.ok (i + 1) s (by simpa using e), fun i hi => q.own (i + 1) (by simpa using hi),
    fun i j hi hj a ha hb => Nat.succ.inj (q.sep (i + 1) (j + 1) (by simpa using hi) (by simpa using hj) a ha hb), fun i hi => q.nd (i + 1) (by simpa using hi)⟩
theorem ER.popN : ∀ {vs : List (Option V)} {es : Env}, vs.length = es.length → ER C F H (vs ++ σ) (es ++ env) → ER C F H σ env
  | [], [], _, h => h
  | [], _ :: _, e, _ => by simp at e
  | _ :: _, [], e, _ => by simp at e
  | _ :: vs, _ :: es, e, h => ER.popN (vs := vs) (es := es) (by simpa using e) h.pop
theorem Fps.grow {fp : Nat → List Addr} (h : ER C F H σ env) (q : Fps C F H σ env fp) (sH : Same H H') (sF : Same F F') (n : ∀ a, F' a ≠ none → F a ≠ none ∨ H a = none) : Fps C F' H' σ env fp := by
  refine ⟨fun i s e => ?_, fun i hi a ha => ?_, q.sep, q.nd⟩
  · refine (q.ok i s e).go sF (fun a m => same_eq sH (same_some h.sB m)) fun a ha => same_eq sH ?_
    exact (q.own i (by obtain ⟨hi, _⟩ := List.getElem?_eq_some_iff.mp e; exact hi) a ha).2.2
  · obtain ⟨b, f, c⟩ := q.own i hi a ha
    refine ⟨b, ?_, same_some sH c⟩
    cases e : F' a with
    | none => rfl
    | some o =>
      rcases n a (by rw [e]; exact fun z => by cases z) with z | z
      · exact absurd f z
      · exact absurd z c
/-- the heap grows by objects that no slot holds; what is frozen may grow by new ones -/
theorem ER.grow (h : ER C F H σ env) (sH : Same H H') (sF : Same F F') (sF' : Same F' H') (n : ∀ a, F' a ≠ none → F a ≠ none ∨ H a = none) : ER C F' H' σ env := by
  obtain ⟨fp, q⟩ := h.sl
  refine ⟨fun a o e => sH a o (h.sB a o e), sF', fun a m => ?_, fun a m => same_some sH (h.up a m), h.len, fp, q.grow h sH sF n⟩
  rcases n a m with z | z
  · exact h.gr a z
  · refine .inr ?_
    cases e : C.He a with
    | none => rfl
    | some o => exact absurd z (h.up a (by rw [e]; exact fun z => by cases z))
theorem same_new (n : H p = none) : Same H (upd H p u) := fun b o e => by rw [upd_ne (ne_of_none e n)]; exact e
theorem ER.fnone (h : ER C F H σ env) (n : H p = none) : F p = none := by
  cases e : F p with
  | none => rfl
  | some o => rw [h.sF p o e] at n; cases n
theorem ER.bnone (h : ER C F H σ env) (n : H p = none) : C.B p = none := by
  cases e : C.B p with
  | none => rfl
  | some o => rw [h.sB p o e] at n; cases n
theorem ER.hnone (h : ER C F H σ env) (n : H p = none) : C.He p = none := by
  cases e : C.He p with
  | none => rfl
  | some o => exact absurd n (h.up p (by rw [e]; exact fun z => by cases z))
theorem ER.newF (h : ER C F H σ env) (n : H p = none) : ER C (upd F p u) (upd H p u) σ env := by
  refine h.grow (same_new n) (same_new (h.fnone n)) (fun a o e => ?_) fun a m => ?_
  · by_cases z : a = p
    · subst z; rw [upd_same] at e ⊢; exact e
    · rw [upd_ne z] at e ⊢; exact h.sF a o e
  · by_cases z : a = p
    · subst z; exact .inr n
    · rw [upd_ne z] at m; exact .inl m
theorem ER.newH (h : ER C F H σ env) (n : H p = none) : ER C F (upd H p u) σ env :=
  h.grow (same_new n) (fun _ _ e => e) (fun a o e => same_new n a o (h.sF a o e)) fun a m => .inl m
/-- a new object of one's own -/
theorem ER.newOw (h : ER C F H σ env) (n : H p = none) (r : S.rel C.K F (upd H p u) [p] v x) : ER C F (upd H p u) (some v :: σ) (.st none τ S x :: env) := by
  have h' := h.newH (u := u) n
  obtain ⟨fp, q⟩ := h.sl
  have q' := q.grow h (same_new (u := u) n) (fun _ _ e => e) fun a m => .inl m
  refine ⟨h'.sB, h'.sF, h'.gr, h'.up, by simp [h'.len], _, q'.push (fq := [p]) ⟨v, rfl, r, fun a m => ?_⟩ (fun a m => ?_) (by simp) fun i hi a ha m => ?_⟩
  · simp at m; subst m; exact h.hnone n
  · simp at m; subst m; exact ⟨h.bnone n, h.fnone n, by rw [upd_same]; exact fun z => by cases z⟩
  · simp at m; subst m; exact (q.own i hi a ha).2.2 n
/-- a slot's objects are changed by themselves -/
theorem ER.mut (h : ER C F H σ env) (e : env[i]? = some (.st w τ S x)) : ∃ v fp, σ[i]? = some (some v) ∧ S.rel C.K F H fp v x ∧ fp.Nodup ∧ (∀ a ∈ fp, C.B a = none ∧ F a = none ∧ H a ≠ none) ∧
    ∀ (τ' : Type) (S' : Stor τ') (x' : τ') (H' : Hp) (fp' : List Addr), (∀ a, a ∉ fp → H a ≠ none → H' a = H a) → (∀ a, H a ≠ none → H' a ≠ none) → S'.rel C.K F H' fp' v x' → fp'.Nodup → (∀ a ∈ fp', H' a ≠ none ∧ (a ∈ fp ∨ H a = none)) → ER C F H' σ (env.set i (.st w τ' S' x')) := by
  obtain ⟨fp, q⟩ := h.sl
  obtain ⟨hi, _⟩ := List.getElem?_eq_some_iff.mp e
  obtain ⟨v, e1, r, k⟩ := q.ok i _ e
  have e1' : σ[i]? = some (some v) := by
    cases z : σ[i]? with
    | none => rw [z] at e1; cases e1
    | some o => rw [z] at e1; exact congrArg some e1
  refine ⟨v, fp i, e1', r, q.nd i hi, q.own i hi, fun τ' S' x' H' fp' hk hs r' nd' sub => ?_⟩
  have bne : ∀ a, C.B a ≠ none → a ∉ fp i := fun a m z => m (q.own i hi a z).1
  refine ⟨fun a o m => ?_, fun a o m => ?_, h.gr, fun a m => hs a (h.up a m), by simp [h.len], fun j => if j = i then fp' else fp j, fun j s' ej => ?_, fun j hj a ha => ?_, fun j l hj hl a ha hb => ?_, fun j hj => ?_⟩
  · have m' : C.B a ≠ none := by rw [m]; exact fun z => by cases z
    rw [hk a (bne a m') (same_some h.sB m')]; exact h.sB a o m
  · have m' : F a ≠ none := by rw [m]; exact fun z => by cases z
    rw [hk a (fun z => m' (q.own i hi a z).2.1) (same_some h.sF m')]; exact h.sF a o m
  · by_cases z : j = i
    · subst z
      rw [List.getElem?_set_self hi] at ej
      cases ej
      refine ⟨v, e1, ?_, ?_⟩
      · simpa using r'
      · simp only [if_pos]
        cases w with
        | none =>
          intro a ha
          rcases (sub a ha).2 with m | m
          · exact k a m
          · exact h.hnone m
        | some v0 =>
          refine ⟨k.1, fun a ha => ?_⟩
          rcases (sub a ha).2 with m | m
          · exact k.2 a m
          · exact .inl (h.hnone m)
    · rw [List.getElem?_set_ne (fun y => z y.symm)] at ej
      have hj : j < env.length := (List.getElem?_eq_some_iff.mp ej).1
      simp only [if_neg z]
      refine (q.ok j s' ej).go (fun _ _ y => y) (fun a m => hk a (bne a m) (same_some h.sB m)) fun a ha => ?_
      exact hk a (fun y => z (q.sep j i hj hi a ha y)) (q.own j hj a ha).2.2
  · have hj' : j < env.length := by simpa using hj
    by_cases z : j = i
    · subst z
      simp only [if_pos] at ha
      obtain ⟨m1, m⟩ := sub a ha
      rcases m with m | m
      · exact ⟨(q.own j hi a m).1, (q.own j hi a m).2.1, m1⟩
      · exact ⟨h.bnone m, h.fnone m, m1⟩
    · simp only [if_neg z] at ha
      obtain ⟨b, f, c⟩ := q.own j hj' a ha
      exact ⟨b, f, hs a c⟩
  · have hj' : j < env.length := by simpa using hj
    have hl' : l < env.length := by simpa using hl
    by_cases zj : j = i
    · by_cases zl : l = i
      · rw [zj, zl]
      · simp only [if_pos zj] at ha
        simp only [if_neg zl] at hb
        rcases (sub a ha).2 with m | m
        · rw [zj]; exact q.sep i l hi hl' a m hb
        · exact absurd m (q.own l hl' a hb).2.2
    · simp only [if_neg zj] at ha
      by_cases zl : l = i
      · simp only [if_pos zl] at hb
        rcases (sub a hb).2 with m | m
        · rw [zl]; exact q.sep j i hj' hi a ha m
        · exact absurd m (q.own j hj' a ha).2.2
      · simp only [if_neg zl] at hb
        exact q.sep j l hj' hl' a ha hb
  · have hj' : j < env.length := by simpa using hj
    by_cases z : j = i
    · simp only [if_pos z]; exact nd'
    · simp only [if_neg z]; exact q.nd j hj'
/-- what a slot owns is frozen: from here on it is shared -/
theorem ER.freeze (h : ER C F H σ env) (fz : Frz S E) (e : env[i]? = some (.st none τ S x)) : ∃ F', Same F F' ∧ ER C F' H σ (env.set i (.st none τ (it E) x)) := by
  obtain ⟨fp, q⟩ := h.sl
  obtain ⟨hi, _⟩ := List.getElem?_eq_some_iff.mp e
  obtain ⟨v, e1, r, k⟩ := q.ok i _ e
  have fn : ∀ a ∈ fp i, F a = none := fun a m => (q.own i hi a m).2.1
  have sF : Same F (Z.grow F H (fp i)) := same_grow fn
  have bne : ∀ a, C.B a ≠ none → a ∉ fp i := fun a m z => m (q.own i hi a z).1
  refine ⟨Z.grow F H (fp i), sF, h.sB, fun a o m => ?_, fun a m => ?_, h.up, by simp [h.len], fun j => if j = i then [] else fp j, fun j s' ej => ?_, fun j hj a ha => ?_, fun j l hj hl a ha hb => ?_, fun j hj => ?_⟩
  · unfold Z.grow at m
    by_cases z : a ∈ fp i
    · rw [if_pos z] at m; exact m
    · rw [if_neg z] at m; exact h.sF a o m
  · unfold Z.grow at m
    by_cases z : a ∈ fp i
    · exact .inr (k a z)
    · rw [if_neg z] at m; exact h.gr a m
  · by_cases z : j = i
    · subst z
      rw [List.getElem?_set_self hi] at ej
      cases ej
      simp only [if_pos]
      exact ⟨v, e1, ⟨rfl, fz.frz fn r⟩, fun _ m => nomatch m⟩
    · rw [List.getElem?_set_ne (fun y => z y.symm)] at ej
      simp only [if_neg z]
      exact (q.ok j s' ej).go sF (fun a m => rfl) fun a ha => rfl
  · have hj' : j < env.length := by simpa using hj
    by_cases z : j = i
    · simp [if_pos z] at ha
    · simp only [if_neg z] at ha
      obtain ⟨b, f, c⟩ := q.own j hj' a ha
      refine ⟨b, ?_, c⟩
      unfold Z.grow
      rw [if_neg (fun y => z (q.sep j i hj' hi a ha y))]; exact f
  · have hj' : j < env.length := by simpa using hj
    have hl' : l < env.length := by simpa using hl
    by_cases zj : j = i
    · simp [if_pos zj] at ha
    · by_cases zl : l = i
      · simp [if_pos zl] at hb
      · simp only [if_neg zj] at ha
        simp only [if_neg zl] at hb
        exact q.sep j l hj' hl' a ha hb
  · have hj' : j < env.length := by simpa using hj
    by_cases z : j = i
    · simp [if_pos z]
    · simp only [if_neg z]; exact q.nd j hj'
/-- slots renamed: f tells where each new slot stood; each is taken once or owns nothing -/
theorem ER.perm {σ' : List (Option V)} {env' : Env} (h : ER C F H σ env) (len : σ'.length = env'.length) (f : Nat → Nat)
    (hf : ∀ j s', env'[j]? = some s' → s' = .un ∨ (env[f j]? = some s' ∧ σ'[j]?.join = σ[f j]?.join ∧ ∀ l s'', env'[l]? = some s'' → s'' ≠ .un → f l = f j → l = j)) : ER C F H σ' env' := by
  classical
  obtain ⟨fp, q⟩ := h.sl
  refine ⟨h.sB, h.sF, h.gr, h.up, len, fun j => match env'[j]? with | some .un => [] | some _ => fp (f j) | none => [], fun j s' ej => ?_, fun j hj a ha => ?_, fun j l hj hl a ha hb => ?_, fun j hj => ?_⟩
  · simp only [ej]
    rcases hf j s' ej with rfl | ⟨e, eo, _⟩
    · exact rfl
    · have := q.ok (f j) s' e
      rw [← eo] at this
      cases s' with
      | un => exact rfl
      | st _ _ _ _ => exact this
      | lk _ _ _ => exact this
  · cases ej : env'[j]? with
    | none => rw [ej] at ha; cases ha
    | some s' =>
      rcases hf j s' ej with rfl | ⟨e, eo, _⟩
      · rw [ej] at ha; cases ha
      · have ha' : a ∈ fp (f j) := by
          rw [ej] at ha
          cases s' with
          | un => cases ha
          | st _ _ _ _ => exact ha
          | lk _ _ _ => exact ha
        exact q.own (f j) (List.getElem?_eq_some_iff.mp e).1 a ha'
  · cases ej : env'[j]? with
    | none => rw [ej] at ha; cases ha
    | some s' =>
      cases el : env'[l]? with
      | none => rw [el] at hb; cases hb
      | some s'' =>
        rcases hf j s' ej with rfl | ⟨e, eo, u⟩
        · rw [ej] at ha; cases ha
        · rcases hf l s'' el with rfl | ⟨e2, eo2, u2⟩
          · rw [el] at hb; cases hb
          · have ha' : a ∈ fp (f j) := by
              rw [ej] at ha
              cases s' with
              | un => cases ha
              | st _ _ _ _ => exact ha
              | lk _ _ _ => exact ha
            have hb' : a ∈ fp (f l) := by
              rw [el] at hb
              cases s'' with
              | un => cases hb
              | st _ _ _ _ => exact hb
              | lk _ _ _ => exact hb
            have hne : s'' ≠ .un := by
              rintro rfl
              rw [el] at hb; cases hb
            exact (u l s'' el hne (q.sep _ _ (List.getElem?_eq_some_iff.mp e2).1 (List.getElem?_eq_some_iff.mp e).1 a hb' ha')).symm
  · show (match env'[j]? with | some .un => [] | some _ => fp (f j) | none => []).Nodup
    cases ej : env'[j]? with
    | none => exact List.nodup_nil
    | some s' =>
      rcases hf j s' ej with rfl | ⟨e, eo, _⟩
      · exact List.nodup_nil
      · have := q.nd (f j) (List.getElem?_eq_some_iff.mp e).1
        cases s' with
        | un => exact List.nodup_nil
        | st _ _ _ _ => exact this
        | lk _ _ _ => exact this
end
end Z

set_option Elab.async false
set_option linter.all false
set_option maxRecDepth 100000
namespace Z
open PySem PySem.Spec PyProof.Rows L2

section
variable {C : Ck} {F F' H H' : Hp} {σ σs σ' : List (Option V)} {env es env' : Env} {o : Option V} {s : Slot} {τ : Type} {S : Stor τ} {E : Enc τ} {x : τ} {v : V} {w : Option V} {i : Nat} {p : Addr} {u : HO}
theorem at_app {α : Type _} {as bs : List α} {i : Nat} (n : Nat) (h : as.length = n) : (as ++ bs)[n + i]? = bs[i]? := by
  subst h; rw [List.getElem?_append_right (Nat.le_add_right _ _), Nat.add_sub_cancel_left]
theorem ER.lookF (h : ER C F H (σs ++ σ) (es ++ env)) (hl : σs.length = es.length) (e : env[i]? = some (.st w τ S x)) : ∃ v fp, σ[i]? = some (some v) ∧ S.rel C.K F H fp v x := by
  obtain ⟨v, fp, a, b⟩ := h.look (i := es.length + i) (by rw [at_app _ rfl]; exact e)
  exact ⟨v, fp, by rw [at_app _ hl] at a; exact a, b⟩
theorem ER.lookKF (h : ER C F H (σs ++ σ) (es ++ env)) (hl : σs.length = es.length) (e : env[i]? = some (.lk τ S x)) : ∃ v fp, σ[i]? = some (some v) ∧ S.rel C.K F H fp v x := by
  obtain ⟨v, fp, a, b⟩ := h.lookK (i := es.length + i) (by rw [at_app _ rfl]; exact e)
  exact ⟨v, fp, by rw [at_app _ hl] at a; exact a, b⟩
theorem ER.repF (h : ER C F H (σs ++ σ) (es ++ env)) (hl : σs.length = es.length) (e : env[i]? = some (.st w τ (it E) x)) : ∃ v, σ[i]? = some (some v) ∧ Rep C.K F v (E.enc x) := by
  obtain ⟨v, fp, a, b⟩ := h.lookF hl e
  exact ⟨v, a, b.2⟩
theorem ER.lenF (h : ER C F H (σs ++ σ) (es ++ env)) (hl : σs.length = es.length) : σ.length = env.length := by
  have := h.len; simp [hl] at this; exact this
/-- the top of the stack goes to slot i -/
theorem ER.asg (h : ER C F H (o :: (σs ++ σ)) (s :: (es ++ env))) (hl : σs.length = es.length) (hi : i < env.length) : ER C F H (σs ++ σ.set i o) (es ++ env.set i s) := by
  have hls : σ.length = env.length := h.pop.lenF hl
  refine h.perm (by simp [hl, hls]) (fun j => if j = es.length + i then 0 else j + 1) fun j s' ej => .inr ?_
  by_cases z : j = es.length + i
  · subst z
    rw [at_app _ rfl, List.getElem?_set_self hi] at ej
    cases ej
    refine ⟨by simp, ?_, fun l s'' _ _ q => ?_⟩
    · simp only [if_pos]
      rw [at_app _ hl, List.getElem?_set_self (by omega)]
      rfl
    · by_cases y : l = es.length + i
      · exact y
      · simp only [if_neg y, if_pos] at q; omega
  · refine ⟨?_, ?_, fun l s'' _ _ q => ?_⟩
    · simp only [if_neg z, List.getElem?_cons_succ]
      by_cases a : j < es.length
      · rw [List.getElem?_append_left a] at ej ⊢; exact ej
      · obtain ⟨m, rfl⟩ : ∃ m, j = es.length + m := ⟨j - es.length, by omega⟩
        rw [at_app _ rfl, List.getElem?_set_ne (by omega)] at ej
        rw [at_app _ rfl]; exact ej
    · simp only [if_neg z, List.getElem?_cons_succ]
      by_cases a : j < es.length
      · rw [List.getElem?_append_left (by omega), List.getElem?_append_left (by omega)]
      · obtain ⟨m, rfl⟩ : ∃ m, j = es.length + m := ⟨j - es.length, by omega⟩
        rw [at_app _ hl, at_app _ hl, List.getElem?_set_ne (by omega)]
    · simp only [if_neg z] at q
      by_cases y : l = es.length + i
      · simp only [if_pos y] at q; omega
      · simp only [if_neg y] at q; omega
/-- weaker slots -/
inductive Sub : Env → Env → Prop
  | nil : Sub [] []
  | keep {s : Slot} {a b : Env} : Sub a b → Sub (s :: a) (s :: b)
  | drop {s : Slot} {a b : Env} : Sub a b → Sub (s :: a) (.un :: b)
theorem Sub.get : ∀ {a b : Env}, Sub a b → ∀ (j : Nat) (s' : Slot), b[j]? = some s' → s' = Slot.un ∨ a[j]? = some s'
  | _, _, .nil, j, s', e => by simp at e
  | _, _, .keep r, 0, s', e => .inr e
  | _, _, .keep r, j + 1, s', e => by simpa using r.get j s' (by simpa using e)
  | _, _, .drop r, 0, s', e => .inl (by simp at e; exact e.symm)
  | _, _, .drop r, j + 1, s', e => by simpa using r.get j s' (by simpa using e)
theorem Sub.len : ∀ {a b : Env}, Sub a b → a.length = b.length
  | _, _, .nil => rfl
  | _, _, .keep r => congrArg (· + 1) r.len
  | _, _, .drop r => congrArg (· + 1) r.len
theorem Sub.refl : ∀ (a : Env), Sub a a
  | [] => .nil
  | _ :: a => .keep (Sub.refl a)
theorem Sub.pre : ∀ (es : Env) {a b : Env}, Sub a b → Sub (es ++ a) (es ++ b)
  | [], _, _, r => r
  | _ :: es, _, _, r => .keep (Sub.pre es r)
theorem ER.sub (h : ER C F H σ env) (q : Sub env env') : ER C F H σ env' :=
  h.perm (by rw [h.len, q.len]) id fun j s' e => (q.get j s' e).imp id fun y => ⟨y, rfl, fun l _ _ _ z => z⟩
theorem ER.subF (h : ER C F H (σs ++ σ) (es ++ env)) (q : Sub env env') : ER C F H (σs ++ σ) (es ++ env') := h.sub (q.pre es)
theorem rot_key {α : Type _} (a : α) (at_ as : List α) {n : Nat} (hlen : at_.length = n) (j : Nat) : (a :: (at_ ++ as))[j]? = (at_ ++ a :: as)[if j = 0 then n else if j ≤ n then j - 1 else j]? := by
  by_cases z : j = 0
  · subst z
    simp only [if_pos, List.getElem?_cons_zero]
    rw [List.getElem?_append_right (by omega), hlen, Nat.sub_self]; rfl
  · obtain ⟨m, rfl⟩ : ∃ m, j = m + 1 := ⟨j - 1, by omega⟩
    simp only [if_neg z, List.getElem?_cons_succ]
    by_cases y : m + 1 ≤ n
    · rw [if_pos y, Nat.add_sub_cancel, List.getElem?_append_left (by omega), List.getElem?_append_left (by omega)]
    · rw [if_neg y, List.getElem?_append_right (by omega), List.getElem?_append_right (by omega)]
      obtain ⟨q, hq⟩ : ∃ q, m = n + q := ⟨m - n, by omega⟩
      subst hq
      rw [hlen, show n + q + 1 - n = q + 1 by omega, List.getElem?_cons_succ, show n + q - n = q by omega]
/-- a pushed value stands under others: it comes to the top -/
theorem ER.rot {σt : List (Option V)} {et : Env} (h : ER C F H (σt ++ o :: σ) (et ++ s :: env)) (hl : σt.length = et.length) : ER C F H (o :: (σt ++ σ)) (s :: (et ++ env)) := by
  have hls : σ.length = env.length := by have := h.len; simp [hl] at this; omega
  refine h.perm (by simp [hl, hls]) (fun j => if j = 0 then et.length else if j ≤ et.length then j - 1 else j) fun j s' ej => .inr ?_
  refine ⟨?_, ?_, fun l s'' _ _ q => ?_⟩
  · rw [← rot_key s et env rfl]; exact ej
  · rw [rot_key o σt σ hl]
  · by_cases z : j = 0
    · subst z
      by_cases y : l = 0
      · exact y
      · simp only [if_neg y, if_pos] at q
        by_cases a : l ≤ et.length
        · rw [if_pos a] at q; omega
        · rw [if_neg a] at q; omega
    · by_cases y : l = 0
      · subst y
        simp only [if_neg z, if_pos] at q
        by_cases a : j ≤ et.length
        · rw [if_pos a] at q; omega
        · rw [if_neg a] at q; omega
      · simp only [if_neg z, if_neg y] at q
        by_cases a : j ≤ et.length
        · rw [if_pos a] at q
          by_cases b : l ≤ et.length
          · rw [if_pos b] at q; omega
          · rw [if_neg b] at q; omega
        · rw [if_neg a] at q
          by_cases b : l ≤ et.length
          · rw [if_pos b] at q; omega
          · rw [if_neg b] at q; omega
theorem unrot_key {α : Type _} (a : α) (at_ as : List α) {n : Nat} (hlen : at_.length = n) (j : Nat) : (at_ ++ a :: as)[j]? = (a :: (at_ ++ as))[if j < n then j + 1 else if j = n then 0 else j]? := by
  by_cases z : j < n
  · rw [if_pos z, List.getElem?_cons_succ, List.getElem?_append_left (by omega), List.getElem?_append_left (by omega)]
  · rw [if_neg z]
    by_cases y : j = n
    · rw [if_pos y, List.getElem?_append_right (by omega), hlen, y, Nat.sub_self]; rfl
    · rw [if_neg y, List.getElem?_append_right (by omega)]
      obtain ⟨q, rfl⟩ : ∃ q, j = n + 1 + q := ⟨j - n - 1, by omega⟩
      rw [hlen, show n + 1 + q - n = q + 1 by omega, List.getElem?_cons_succ, show n + 1 + q = (n + q) + 1 by omega, List.getElem?_cons_succ, List.getElem?_append_right (by omega), hlen, Nat.add_sub_cancel_left]
/-- the top goes below others -/
theorem ER.unrot {σt : List (Option V)} {et : Env} (h : ER C F H (o :: (σt ++ σ)) (s :: (et ++ env))) (hl : σt.length = et.length) : ER C F H (σt ++ o :: σ) (et ++ s :: env) := by
  have hls : σ.length = env.length := by have := h.len; simp [hl] at this; omega
  refine h.perm (by simp [hl, hls]) (fun j => if j < et.length then j + 1 else if j = et.length then 0 else j) fun j s' ej => .inr ?_
  refine ⟨?_, ?_, fun l s'' _ _ q => ?_⟩
  · rw [← unrot_key s et env rfl]; exact ej
  · rw [unrot_key o σt σ hl]
  · by_cases z : j < et.length
    · simp only [if_pos z] at q
      by_cases y : l < et.length
      · simp only [if_pos y] at q; omega
      · simp only [if_neg y] at q
        by_cases x : l = et.length
        · simp only [if_pos x] at q; omega
        · simp only [if_neg x] at q; omega
    · simp only [if_neg z] at q
      by_cases y : l < et.length
      · simp only [if_pos y] at q
        by_cases x : j = et.length
        · simp only [if_pos x] at q; omega
        · simp only [if_neg x] at q; omega
      · simp only [if_neg y] at q
        by_cases x : j = et.length
        · simp only [if_pos x] at q
          by_cases w : l = et.length
          · omega
          · simp only [if_neg w] at q; omega
        · simp only [if_neg x] at q
          by_cases w : l = et.length
          · simp only [if_pos w] at q; omega
          · simp only [if_neg w] at q; omega
end

/-! ### the judgements -/
section
variable (X : Cx) {Ω : Type}
/-- the weakest readings -/
def tE (e : Expr) : TE := fun σ H Q => ∀ pins s, Inv X pins σ H s → wpAny (model X.prog X.w) X.A (eval e X.env) (EP X pins σ Q) X.xe s
def tT (e : Expr) : TT := fun σ H Q => ∀ pins s, Inv X pins σ H s → wpAny (model X.prog X.w) X.A (isTrue e X.env (eval e X.env)) (TP X pins σ Q) X.xe s
def tAs (es : List Expr) : TA := fun σ H Q => ∀ pos pins s, Inv X pins σ H s → wpAny (model X.prog X.w) X.A (spliced (backTo pos (starEach es X.env))) (AP X pins σ Q) X.xe s
def tSs (st : List Stmt) : TS := fun D σ H => ∀ pins s, Inv X pins σ H s → wpAny (model X.prog X.w) X.A (execs st X.env) (SP X pins D) X.xe s
def tS1 (st : Stmt) : TS := fun D σ H => ∀ pins s, Inv X pins σ H s → wpAny (model X.prog X.w) X.A (exec st X.env) (SP X pins D) X.xe s
theorem peC {e : Expr} : PE X e (tE X e) := ⟨fun pins s σ H Q I h => h pins s I⟩
theorem ptC {e : Expr} : PT X e (tT X e) := ⟨fun pins s σ H Q I h => h pins s I⟩
theorem paC {es : List Expr} : PA X es (tAs X es) := ⟨fun pos pins s σ H Q I h => h pos pins s I⟩
theorem pssC {st : List Stmt} : PSs X st (tSs X st) := ⟨fun pins s σ H D I h => h pins s I⟩
theorem psC {st : Stmt} : PS X st (tS1 X st) := ⟨fun pins s σ H D I h => h pins s I⟩
theorem tE.of {e : Expr} {t : TE} {σ : L2.St} {H : Hp} {Q : VK} (h : PE X e t) (q : t σ H Q) : tE X e σ H Q := fun pins s I => h.run pins s σ H Q I q
theorem tT.of {e : Expr} {t : TT} {σ : L2.St} {H : Hp} {Q : Bool → Hp → Prop} (h : PT X e t) (q : t σ H Q) : tT X e σ H Q := fun pins s I => h.run pins s σ H Q I q
theorem tAs.of {es : List Expr} {t : TA} {σ : L2.St} {H : Hp} {Q : List V → Hp → Prop} (h : PA X es t) (q : t σ H Q) : tAs X es σ H Q := fun pos pins s I => h.run pos pins s σ H Q I q
theorem tSs.of {st : List Stmt} {t : TS} {σ : L2.St} {H : Hp} {D : Ends} (h : PSs X st t) (q : t D σ H) : tSs X st D σ H := fun pins s I => h.run pins s σ H D I q
theorem tS1.of {st : Stmt} {t : TS} {σ : L2.St} {H : Hp} {D : Ends} (h : PS X st t) (q : t D σ H) : tS1 X st D σ H := fun pins s I => h.run pins s σ H D I q

def LX (env : Env) (e : Expr) {τ : Type} (S : Stor τ) {P : Type} (env' : P → Env) (f : (τ → P → Option Ω) → Option Ω) : Prop :=
  ∀ (C : Ck) (F H : Hp) (σs : List (Option V)) (es : Env) (σ : List (Option V)) (k : τ → P → Option Ω) (ω : Ω) (Q : VK), C.K = X.K → σs.length = es.length → ER C F H (σs ++ σ) (es ++ env) → f k = some ω →
    (∀ a p v F' H', k a p = some ω → ER C F' H' (some v :: (σs ++ σ)) (.st none τ S a :: (es ++ env' p)) → Q v H') → tE X e σ H Q
def LT (env : Env) (e : Expr) {P : Type} (env' : P → Env) (f : (Bool → P → Option Ω) → Option Ω) : Prop :=
  ∀ (C : Ck) (F H : Hp) (σs : List (Option V)) (es : Env) (σ : List (Option V)) (k : Bool → P → Option Ω) (ω : Ω) (Q : Bool → Hp → Prop), C.K = X.K → σs.length = es.length → ER C F H (σs ++ σ) (es ++ env) → f k = some ω →
    (∀ a p F' H', k a p = some ω → ER C F' H' (σs ++ σ) (es ++ env' p) → Q a H') → tT X e σ H Q
/-- an operand: what it tells may be read as long as the slots stand -/
def LO (G : Env → Prop) (env : Env) (e : Expr) {τ : Type} (S : Stor τ) {P : Type} (env' : P → Env) (f : (τ → P → Option Ω) → Option Ω) : Prop :=
  ∀ (C : Ck) (F H : Hp) (σs : List (Option V)) (es : Env) (σ : List (Option V)) (k : τ → P → Option Ω) (ω : Ω) (Q : VK), C.K = X.K → σs.length = es.length → ER C F H (σs ++ σ) (es ++ env) → f k = some ω →
    (∀ a p v F' H' (σx : List (Option V)) (ex : Env), σx.length = ex.length → k a p = some ω → ER C F' H' (σx ++ (σs ++ σ)) (ex ++ (es ++ env' p)) →
      (∀ (F'' H'' : Hp) (σ2 : List (Option V)) (e2 env2 : Env), G env2 → σ2.length = e2.length → ER C F'' H'' (σ2 ++ (σx ++ (σs ++ σ))) (e2 ++ (ex ++ (es ++ env2))) → ∃ fp, S.rel C.K F'' H'' fp v a) → Q v H') → tE X e σ H Q
/-- arguments, from the left -/
def LA (env : Env) (xs : List Expr) {A : Type} (sl : A → Env) {P : Type} (env' : P → Env) (f : (A → P → Option Ω) → Option Ω) : Prop :=
  ∀ (C : Ck) (F H : Hp) (σs : List (Option V)) (es : Env) (σ : List (Option V)) (k : A → P → Option Ω) (ω : Ω) (Q : List V → Hp → Prop), C.K = X.K → σs.length = es.length → ER C F H (σs ++ σ) (es ++ env) → f k = some ω →
    (∀ a p (vs : List V) F' H', k a p = some ω → (vs.map some).length = (sl a).length → ER C F' H' (vs.map some ++ (σs ++ σ)) (sl a ++ (es ++ env' p)) → Q vs H') → tAs X xs σ H Q
/-- a comparison: value and test -/
def LC (env : Env) (op : CmpOp) (a b : Expr) {P : Type} (env' : P → Env) (f : (Bool → P → Option Ω) → Option Ω) : Prop :=
  ∃ r : R2, OpR X (compareOp op) r ∧ ∀ (C : Ck) (F H : Hp) (σs : List (Option V)) (es : Env) (σ : List (Option V)) (k : Bool → P → Option Ω) (ω : Ω) (Q : VK), C.K = X.K → σs.length = es.length → ER C F H (σs ++ σ) (es ++ env) → f k = some ω →
    (∀ c p F' H', k c p = some ω → ER C F' H' (σs ++ σ) (es ++ env' p) → Q (.bl c) H') → tOp r (tE X a) (tE X b) σ H Q
end

/-- a label: where a break or a continue goes -/
structure Lp (Ω : Type) where
  J : Type
  env : J → Env
  k : J → Option Ω
def noLp (Ω : Type) : Lp Ω := ⟨Empty, fun e => e.elim, fun e => e.elim⟩
section
variable (X : Cx)
def LB {R I Ω : Type} (S : Stor R) (envR : I → Env) (kr : R → I → Option Ω) (bk ct : Lp Ω) (env : Env) (sts : List Stmt) {J : Type} (envJ : J → Env) (f : (J → Option Ω) → Option Ω) : Prop :=
  ∀ (C : Ck) (F H : Hp) (σs : List (Option V)) (es : Env) (σ : List (Option V)) (kn : J → Option Ω) (ω : Ω) (D : Ends), C.K = X.K → σs.length = es.length → ER C F H (σs ++ σ) (es ++ env) → f kn = some ω →
    (∀ j F' H' σ', kn j = some ω → ER C F' H' (σs ++ σ') (es ++ envJ j) → D.nx σ' H') →
    (∀ j F' H' σ', bk.k j = some ω → ER C F' H' (σs ++ σ') (es ++ bk.env j) → D.bk σ' H') →
    (∀ j F' H' σ', ct.k j = some ω → ER C F' H' (σs ++ σ') (es ++ ct.env j) → D.ct σ' H') →
    (∀ a i v F' H' σ', kr a i = some ω → ER C F' H' (some v :: (σs ++ σ')) (.st none R S a :: (es ++ envR i)) → D.rt v H') → tSs X sts D σ H
end

/-! ### names, constants -/
section
variable {X : Cx} {Ω : Type} {env env1 : Env} {τ : Type} {S : Stor τ} {E : Enc τ} {x : τ} {w : Option V} {i : Nat} {nm : Str} {pos : Pos} {e a b : Expr} {P P1 P2 : Type} {f : (τ → P → Option Ω) → Option Ω} {env' : P → Env}
theorem lx_var (i : Nat) (cp : Cp S) (e : env[i]? = some (.st w τ S x)) (hN : X.N[i]? = some nm := by rfl) (hv : Vis X.env.scope nm := by first | exact Or.inl rfl | exact Or.inr (Or.inl rfl) | exact Or.inr (Or.inr rfl)) (hd : (nm == ("__debug__" : Str)) = false := by decide) (hcd : (nm == ("__classdict__" : Str)) = false := by decide) :
    LX X env (.Name nm pos) S (fun _ : Unit => env) (fun (k : τ → Unit → Option Ω) => k x ()) := by
  refine fun C F H σs es σ k ω Q hK hl h hk q => tE.of X (pe_var hN hv hd hcd) ?_
  obtain ⟨v, fp, e1, r⟩ := h.lookF hl e
  have z := cp.nil r
  subst z
  exact ⟨v, e1, q x () v F H hk (h.push0 ⟨v, rfl, r, fun _ m => nomatch m⟩)⟩
/-- an own object is read and shared from here on -/
theorem lx_frz (i : Nat) (fz : Frz S E) (e : env[i]? = some (.st none τ S x)) (hN : X.N[i]? = some nm := by rfl) (hv : Vis X.env.scope nm := by first | exact Or.inl rfl | exact Or.inr (Or.inl rfl) | exact Or.inr (Or.inr rfl)) (hd : (nm == ("__debug__" : Str)) = false := by decide) (hcd : (nm == ("__classdict__" : Str)) = false := by decide) :
    LX X env (.Name nm pos) (it E) (fun _ : Unit => env.set i (.st none τ (it E) x)) (fun (k : τ → Unit → Option Ω) => k x ()) := by
  refine fun C F H σs es σ k ω Q hK hl h hk q => tE.of X (pe_var hN hv hd hcd) ?_
  obtain ⟨F', sF, h'⟩ := h.freeze (i := es.length + i) fz (by rw [at_app _ rfl]; exact e)
  have h2 : ER C F' H (σs ++ σ) (es ++ env.set i (.st none τ (it E) x)) := by
    rw [List.set_append_right _ _ (Nat.le_add_right _ _), Nat.add_sub_cancel_left] at h'
    exact h'
  obtain ⟨v, e1, r⟩ := h2.repF (i := i) (E := E) (x := x) (w := none) hl (by rw [List.getElem?_set_self (List.getElem?_eq_some_iff.mp e).1])
  exact ⟨v, e1, q x () v F' H hk (h2.pushSh r)⟩
/-- an own object is handed on -/
theorem lx_move (i : Nat) (e : env[i]? = some (.st none τ S x)) (hN : X.N[i]? = some nm := by rfl) (hv : Vis X.env.scope nm := by first | exact Or.inl rfl | exact Or.inr (Or.inl rfl) | exact Or.inr (Or.inr rfl)) (hd : (nm == ("__debug__" : Str)) = false := by decide) (hcd : (nm == ("__classdict__" : Str)) = false := by decide) :
    LX X env (.Name nm pos) S (fun _ : Unit => env.set i .un) (fun (k : τ → Unit → Option Ω) => k x ()) := by
  refine fun C F H σs es σ k ω Q hK hl h hk q => tE.of X (pe_var hN hv hd hcd) ?_
  obtain ⟨v, fp, e1, r⟩ := h.lookF hl e
  refine ⟨v, e1, q x () v F H hk ?_⟩
  have hi := (List.getElem?_eq_some_iff.mp e).1
  refine h.perm (by have := h.len; simp at this ⊢; omega) (fun j => if j = 0 then es.length + i else j - 1) fun j s' ej => ?_
  cases j with
  | zero =>
    simp at ej; subst ej
    refine .inr ⟨?_, ?_, fun l s'' el hne hq => ?_⟩
    · simp only [if_pos]; rw [at_app _ rfl]; exact e
    · simp only [if_pos]; rw [at_app _ hl, e1]; rfl
    · by_cases z : l = 0
      · exact z
      · exfalso
        simp only [if_neg z, if_pos] at hq
        obtain ⟨m, rfl⟩ : ∃ m, l = m + 1 := ⟨l - 1, by omega⟩
        have hm : m = es.length + i := by omega
        subst hm
        rw [List.getElem?_cons_succ, at_app _ rfl, List.getElem?_set_self hi] at el
        exact hne (Option.some.inj el).symm
  | succ j =>
    rw [List.getElem?_cons_succ] at ej
    by_cases z : j = es.length + i
    · subst z
      rw [at_app _ rfl, List.getElem?_set_self hi] at ej
      exact .inl (Option.some.inj ej).symm
    · refine .inr ⟨?_, by simp, fun l s'' el hne hq => ?_⟩
      · simp only [Nat.add_one_sub_one, if_neg (Nat.succ_ne_zero j)]
        by_cases y : j < es.length
        · rw [List.getElem?_append_left y] at ej ⊢; exact ej
        · obtain ⟨m, rfl⟩ : ∃ m, j = es.length + m := ⟨j - es.length, by omega⟩
          rw [at_app _ rfl, List.getElem?_set_ne (by omega)] at ej
          rw [at_app _ rfl]; exact ej
      · by_cases y : l = 0
        · subst y; simp only [if_pos, if_neg (Nat.succ_ne_zero j)] at hq; omega
        · simp only [if_neg y, if_neg (Nat.succ_ne_zero j)] at hq; omega
theorem lx_c {v : V} (hp : PE X e (tC v)) (r : ∀ F, Rep X.K F v (E.enc x)) : LX X env e (it E) (fun _ : Unit => env) (fun (k : τ → Unit → Option Ω) => k x ()) :=
  fun C F H σs es σ k ω Q hK hl h hk q => tE.of X hp (q x () v F H hk (h.pushSh (by rw [hK]; exact r F)))
theorem lx_int {n : Int} {j : Nat} : LX X env (.Constant (.int n) j pos) (it eI) (fun _ : Unit => env) (fun (k : Int → Unit → Option Ω) => k n ()) := lx_c pe_int fun _ => .int n
theorem lx_bl {c : Bool} {j : Nat} : LX X env (.Constant (.bool c) j pos) (it eB) (fun _ : Unit => env) (fun (k : Bool → Unit → Option Ω) => k c ()) := lx_c pe_bl fun _ => .bl c
theorem lx_str {c : Str} {j : Nat} : LX X env (.Constant (.str c) j pos) (it eS) (fun _ : Unit => env) (fun (k : Str → Unit → Option Ω) => k c ()) := lx_c pe_str fun _ => .str c
theorem lx_non {j : Nat} : LX X env (.Constant .none j pos) (it eN) (fun _ : Unit => env) (fun (k : Unit → Unit → Option Ω) => k () ()) := lx_c pe_non fun _ => .non
/-- what is told may be taken for another kind of the same data -/
theorem lx_as {τ' : Type} {E' : Enc τ'} (h : LX X env e (it E) env' f) (g : τ → τ') (hg : ∀ a, E'.enc (g a) = E.enc a) : LX X env e (it E') env' (fun (k : τ' → P → Option Ω) => f fun a p => k (g a) p) := by
  refine fun C F H σs es σ k ω Q hK hl hr hk q => h C F H σs es σ _ ω Q hK hl hr hk fun a p v F' H' hka h' => q (g a) p v F' H' hka ?_
  obtain ⟨v', fp, e1, r⟩ := h'.look (i := 0) rfl
  simp at e1; subst e1
  exact h'.pop.pushSh (by rw [hg]; exact r.2)
/-- .. a cast: where the data are of another kind the walk is not followed -/
theorem lx_cast {τ' : Type} {E' : Enc τ'} (h : LX X env e (it E) env' f) (g : τ → Option τ') (hg : ∀ a b, g a = some b → E'.enc b = E.enc a) : LX X env e (it E') env' (fun (k : τ' → P → Option Ω) => f fun a p => (g a).bind fun b => k b p) := by
  refine fun C F H σs es σ k ω Q hK hl hr hk q => h C F H σs es σ _ ω Q hK hl hr hk fun a p v F' H' hka h' => ?_
  cases z : g a with
  | none => rw [z] at hka; cases hka
  | some b =>
    rw [z] at hka
    obtain ⟨v', fp, e1, r⟩ := h'.look (i := 0) rfl
    simp at e1; subst e1
    exact q b p v F' H' hka (h'.pop.pushSh (by rw [hg a b z]; exact r.2))
/-- own objects that were made are shared -/
theorem lx_sh (fz : Frz S E) (h : LX X env e S env' f) : LX X env e (it E) env' f := by
  refine fun C F H σs es σ k ω Q hK hl hr hk q => h C F H σs es σ k ω Q hK hl hr hk fun a p v F' H' hka h' => ?_
  obtain ⟨F2, sF, h2⟩ := h'.freeze (i := 0) fz rfl
  exact q a p v F2 H' hka h2
/-- the operands -/
theorem lo_of (h : LX X env e S env' f) : LO X (fun _ => True) env e S env' f := by
  refine fun C F H σs es σ k ω Q hK hl hr hk q => h C F H σs es σ k ω Q hK hl hr hk fun a p v F' H' hka h' => ?_
  refine q a p v F' H' [some v] [.st none τ S a] rfl hka h' fun F'' H'' σ2 e2 env2 _ hl2 h2 => ?_
  obtain ⟨v', fp, e1, r⟩ := h2.look (i := e2.length + 0) (by rw [at_app _ rfl]; rfl)
  rw [at_app _ hl2] at e1
  simp at e1; subst e1
  exact ⟨fp, r⟩
theorem lo_var (i : Nat) (e : env[i]? = some (.st w τ S x)) (hN : X.N[i]? = some nm := by rfl) (hv : Vis X.env.scope nm := by first | exact Or.inl rfl | exact Or.inr (Or.inl rfl) | exact Or.inr (Or.inr rfl)) (hd : (nm == ("__debug__" : Str)) = false := by decide) (hcd : (nm == ("__classdict__" : Str)) = false := by decide) :
    LO X (fun en => en[i]? = some (.st w τ S x)) env (.Name nm pos) S (fun _ : Unit => env) (fun (k : τ → Unit → Option Ω) => k x ()) := by
  refine fun C F H σs es σ k ω Q hK hl h hk q => tE.of X (pe_var hN hv hd hcd) ?_
  obtain ⟨v, fp, e1, r⟩ := h.lookF hl e
  refine ⟨v, e1, q x () v F H [] [] rfl hk h fun F'' H'' σ2 e2 env2 hg hl2 h2 => ?_⟩
  have h3 : ER C F'' H'' ((σ2 ++ σs) ++ σ) ((e2 ++ es) ++ env2) := by simpa [List.append_assoc] using h2
  obtain ⟨v', fp', e1', r'⟩ := h3.lookF (i := i) (τ := τ) (S := S) (x := x) (w := w) (by simp [hl, hl2]) hg
  rw [e1] at e1'; cases e1'
  exact ⟨fp', r'⟩
theorem lo_lk (i : Nat) (e : env[i]? = some (.lk τ S x)) (hN : X.N[i]? = some nm := by rfl) (hv : Vis X.env.scope nm := by first | exact Or.inl rfl | exact Or.inr (Or.inl rfl) | exact Or.inr (Or.inr rfl)) (hd : (nm == ("__debug__" : Str)) = false := by decide) (hcd : (nm == ("__classdict__" : Str)) = false := by decide) :
    LO X (fun en => en[i]? = some (.lk τ S x)) env (.Name nm pos) S (fun _ : Unit => env) (fun (k : τ → Unit → Option Ω) => k x ()) := by
  refine fun C F H σs es σ k ω Q hK hl h hk q => tE.of X (pe_var hN hv hd hcd) ?_
  obtain ⟨v, fp, e1, r⟩ := h.lookKF hl e
  refine ⟨v, e1, q x () v F H [] [] rfl hk h fun F'' H'' σ2 e2 env2 hg hl2 h2 => ?_⟩
  have h3 : ER C F'' H'' ((σ2 ++ σs) ++ σ) ((e2 ++ es) ++ env2) := by simpa [List.append_assoc] using h2
  obtain ⟨v', fp', e1', r'⟩ := h3.lookKF (i := i) (τ := τ) (S := S) (x := x) (by simp [hl, hl2]) hg
  rw [e1] at e1'; cases e1'
  exact ⟨fp', r'⟩
end
end Z

set_option Elab.async false
set_option linter.all false
set_option maxRecDepth 100000
namespace Z
open PySem PySem.Spec PyProof.Rows L2

/-- a check on the way: where it fails the walk is not followed -/
def ck {Ω : Type} (b : Bool) (k : Option Ω) : Option Ω := if b then k else none
theorem ck_some {Ω : Type} {b : Bool} {k : Option Ω} {ω : Ω} (h : ck b k = some ω) : b = true ∧ k = some ω := by
  unfold ck at h
  cases b with
  | true => exact ⟨rfl, by simpa using h⟩
  | false => simp at h
@[simp] theorem ck_true {Ω : Type} (k : Option Ω) : ck true k = k := rfl
theorem bind_some {α Ω : Type} {o : Option α} {k : α → Option Ω} {ω : Ω} (h : o.bind k = some ω) : ∃ a, o = some a ∧ k a = some ω := by
  cases o with
  | none => cases h
  | some a => exact ⟨a, rfl, h⟩

section
variable {X : Cx} {Ω : Type} {env : Env} {nm : Str} {pos : Pos} {a b : Expr} {P P1 P2 : Type} {τ τ1 τ2 α β : Type} {S : Stor τ} {S1 : Stor τ1} {S2 : Stor τ2} {E : Enc τ} {E1 : Enc τ1} {E2 : Enc τ2}
  {G : Env → Prop} {G1 : Env → Prop} {G2 : P1 → Env → Prop} {e1 : P1 → Env} {e2 : P1 → P2 → Env} {fa : (τ1 → P1 → Option Ω) → Option Ω} {fb : P1 → (τ2 → P2 → Option Ω) → Option Ω}

theorem lo_run (ha : LO X G env a S1 e1 fa) (g1 : ∀ p1, G (e1 p1)) {C : Ck} {F H : Hp} {σs : List (Option V)} {es : Env} {σ : List (Option V)} {k : τ1 → P1 → Option Ω} {ω : Ω} {R : V → Hp → Prop} (hK : C.K = X.K) (hl : σs.length = es.length)
    (h : ER C F H (σs ++ σ) (es ++ env)) (hk : fa k = some ω)
    (q : ∀ x p1 v F' H' fp, k x p1 = some ω → ER C F' H' (σs ++ σ) (es ++ e1 p1) → S1.rel C.K F' H' fp v x → R v H') : tE X a σ H R :=
  ha C F H σs es σ k ω R hK hl h hk fun x p1 v F' H' σx ex hlx hk' h' r' => by
    obtain ⟨fp, rr⟩ := r' F' H' [] [] (e1 p1) (g1 p1) rfl h'
    exact q x p1 v F' H' fp hk' (h'.popN hlx) rr
/-- two operands in a row -/
theorem op2_run (ha : LO X G1 env a S1 e1 fa) (hb : ∀ p1, LO X (G2 p1) (e1 p1) b S2 (e2 p1) (fb p1)) (g1 : ∀ p1 p2, G1 (e2 p1 p2)) (g2 : ∀ p1 p2, G2 p1 (e2 p1 p2))
    {C : Ck} {F H : Hp} {σs : List (Option V)} {es : Env} {σ : List (Option V)} {k : τ1 → P1 → τ2 → P2 → Option Ω} {ω : Ω} {R : V → V → Hp → Prop} (hK : C.K = X.K) (hl : σs.length = es.length)
    (h : ER C F H (σs ++ σ) (es ++ env)) (hk : (fa fun x p1 => fb p1 fun y p2 => k x p1 y p2) = some ω)
    (q : ∀ x p1 y p2 v u F' H' fp fq, k x p1 y p2 = some ω → ER C F' H' (σs ++ σ) (es ++ e2 p1 p2) → S1.rel C.K F' H' fp v x → S2.rel C.K F' H' fq u y → R v u H') :
    tE X a σ H fun v H1 => tE X b σ H1 fun u H2 => R v u H2 :=
  ha C F H σs es σ _ ω _ hK hl h hk fun x p1 v F' H' σx ex hlx hk' h' r' =>
    hb p1 C F' H' (σx ++ σs) (ex ++ es) σ _ ω _ hK (by simp [hl, hlx]) (by simpa [List.append_assoc] using h') hk' fun y p2 u F2 H2 σy ey hly hk2 h2 r2 => by
      have h3 : ER C F2 H2 (σy ++ (σx ++ (σs ++ σ))) (ey ++ (ex ++ (es ++ e2 p1 p2))) := by simpa [List.append_assoc] using h2
      obtain ⟨fp, rr⟩ := r' F2 H2 σy ey (e2 p1 p2) (g1 p1 p2) hly h3
      obtain ⟨fq, rq⟩ := r2 F2 H2 [] [] (e2 p1 p2) (g2 p1 p2) rfl h2
      exact q x p1 y p2 v u F2 H2 fp fq hk2 ((h3.popN hly).popN hlx) rr rq

/-! ### numbers -/
/-- an operator of two ints, by its check and its value -/
theorem lx_opI {op : Operator} {r : R2} {c : Int → Int → Bool} {g : Int → Int → Int} (ho : OpR X (binaryOp op) r) (hr : ∀ i j H (Q : VK), c i j = true → Q (.int (g i j)) H → r (.int i) (.int j) H Q)
    {fa : (Int → P1 → Option Ω) → Option Ω} {fb : P1 → (Int → P2 → Option Ω) → Option Ω} (ha : LX X env a (it eI) e1 fa) (hb : ∀ p1, LX X (e1 p1) b (it eI) (e2 p1) (fb p1)) :
    LX X env (.BinOp a op b pos) (it eI) (fun p : P1 × P2 => e2 p.1 p.2) (fun k => fa fun x p1 => fb p1 fun y p2 => ck (c x y) (k (g x y) (p1, p2))) :=
  fun C F H σs es σ k ω Q hK hl h hk q => tE.of X (pe_op ho (peC X) (peC X)) (op2_run (lo_of ha) (fun p1 => lo_of (hb p1)) (fun _ _ => trivial) (fun _ _ => trivial) hK hl h hk
    fun x p1 y p2 v u F' H' fp fq hk' h' r1 r2 => by
      obtain ⟨hc, hk'⟩ := ck_some hk'
      obtain ⟨_, r1⟩ := r1
      obtain ⟨_, r2⟩ := r2
      cases r1; cases r2
      exact hr x y H' Q hc (q _ (p1, p2) _ F' H' hk' (h'.pushSh (.int _))))
/-- .. that needs no check -/
theorem lx_opT {op : Operator} {r : R2} {g : Int → Int → Int} (ho : OpR X (binaryOp op) r) (hr : ∀ i j H (Q : VK), Q (.int (g i j)) H → r (.int i) (.int j) H Q)
    {fa : (Int → P1 → Option Ω) → Option Ω} {fb : P1 → (Int → P2 → Option Ω) → Option Ω} (ha : LX X env a (it eI) e1 fa) (hb : ∀ p1, LX X (e1 p1) b (it eI) (e2 p1) (fb p1)) :
    LX X env (.BinOp a op b pos) (it eI) (fun p : P1 × P2 => e2 p.1 p.2) (fun k => fa fun x p1 => fb p1 fun y p2 => k (g x y) (p1, p2)) :=
  fun C F H σs es σ k ω Q hK hl h hk q => tE.of X (pe_op ho (peC X) (peC X)) (op2_run (lo_of ha) (fun p1 => lo_of (hb p1)) (fun _ _ => trivial) (fun _ _ => trivial) hK hl h hk
    fun x p1 y p2 v u F' H' fp fq hk' h' r1 r2 => by
      obtain ⟨_, r1⟩ := r1
      obtain ⟨_, r2⟩ := r2
      cases r1; cases r2
      exact hr x y H' Q (q _ (p1, p2) _ F' H' hk' (h'.pushSh (.int _))))
section
variable {fa : (Int → P1 → Option Ω) → Option Ω} {fb : P1 → (Int → P2 → Option Ω) → Option Ω}
theorem lx_add (ha : LX X env a (it eI) e1 fa) (hb : ∀ p1, LX X (e1 p1) b (it eI) (e2 p1) (fb p1)) :
    LX X env (.BinOp a .Add b pos) (it eI) (fun p : P1 × P2 => e2 p.1 p.2) (fun k => fa fun x p1 => fb p1 fun y p2 => k (x + y) (p1, p2)) := lx_opT op_add (fun i j _ _ q => ⟨i, j, rfl, rfl, q⟩) ha hb
theorem lx_sub (ha : LX X env a (it eI) e1 fa) (hb : ∀ p1, LX X (e1 p1) b (it eI) (e2 p1) (fb p1)) :
    LX X env (.BinOp a .Sub b pos) (it eI) (fun p : P1 × P2 => e2 p.1 p.2) (fun k => fa fun x p1 => fb p1 fun y p2 => k (x - y) (p1, p2)) := lx_opT op_sub (fun i j _ _ q => ⟨i, j, rfl, rfl, q⟩) ha hb
/-- a product: one factor is below 2 ^ 64 -/
def mulOk (i j : Int) : Bool := decide ((-(2 ^ 64) < i ∧ i < 2 ^ 64) ∨ (-(2 ^ 64) < j ∧ j < 2 ^ 64))
def divOk (j : Int) : Bool := decide (j ≠ 0 ∧ j.natAbs < 1073741824)
def modOk (j : Int) : Bool := decide (j ≠ 0)
def powOk (i j : Int) : Bool := decide (0 ≤ j ∧ j ≤ 1000000 ∧ i.natAbs < 2 ^ 64)
theorem lx_mul (ha : LX X env a (it eI) e1 fa) (hb : ∀ p1, LX X (e1 p1) b (it eI) (e2 p1) (fb p1)) :
    LX X env (.BinOp a .Mult b pos) (it eI) (fun p : P1 × P2 => e2 p.1 p.2) (fun k => fa fun x p1 => fb p1 fun y p2 => ck (mulOk x y) (k (x * y) (p1, p2))) := lx_opI (c := mulOk) op_mul (fun i j _ _ c q => ⟨i, j, rfl, rfl, of_decide_eq_true (p := (-(2 ^ 64) < i ∧ i < 2 ^ 64) ∨ (-(2 ^ 64) < j ∧ j < 2 ^ 64)) c, q⟩) ha hb
theorem lx_fdiv (ha : LX X env a (it eI) e1 fa) (hb : ∀ p1, LX X (e1 p1) b (it eI) (e2 p1) (fb p1)) :
    LX X env (.BinOp a .FloorDiv b pos) (it eI) (fun p : P1 × P2 => e2 p.1 p.2) (fun k => fa fun x p1 => fb p1 fun y p2 => ck (divOk y) (k (x.fdiv y) (p1, p2))) := lx_opI (c := fun _ y => divOk y) op_fdivN (fun i j _ _ c q => ⟨i, j, rfl, rfl, of_decide_eq_true (p := j ≠ 0 ∧ j.natAbs < 1073741824) c, q⟩) ha hb
theorem lx_mod (ha : LX X env a (it eI) e1 fa) (hb : ∀ p1, LX X (e1 p1) b (it eI) (e2 p1) (fb p1)) :
    LX X env (.BinOp a .Mod b pos) (it eI) (fun p : P1 × P2 => e2 p.1 p.2) (fun k => fa fun x p1 => fb p1 fun y p2 => ck (modOk y) (k (x.fmod y) (p1, p2))) := lx_opI (c := fun _ y => modOk y) op_modN (fun i j _ _ c q => ⟨i, j, rfl, rfl, of_decide_eq_true c, q⟩) ha hb
theorem lx_pow (ha : LX X env a (it eI) e1 fa) (hb : ∀ p1, LX X (e1 p1) b (it eI) (e2 p1) (fb p1)) :
    LX X env (.BinOp a .Pow b pos) (it eI) (fun p : P1 × P2 => e2 p.1 p.2) (fun k => fa fun x p1 => fb p1 fun y p2 => ck (powOk x y) (k (x ^ y.toNat) (p1, p2))) := lx_opI (c := powOk) op_pow (fun i j _ _ c q => ⟨i, j, rfl, rfl, of_decide_eq_true (p := 0 ≤ j ∧ j ≤ 1000000 ∧ i.natAbs < 2 ^ 64) c, q⟩) ha hb
theorem lx_neg (ha : LX X env a (it eI) e1 fa) : LX X env (.UnaryOp .USub a pos) (it eI) e1 (fun k => fa fun x p1 => k (-x) p1) :=
  fun C F H σs es σ k ω Q hK hl h hk q => tE.of X (pe_un un_neg (peC X)) (lo_run (lo_of ha) (fun _ => trivial) hK hl h hk fun x p1 v F' H' fp hk' h' r => by
    obtain ⟨_, r⟩ := r
    cases r
    exact ⟨x, rfl, q _ p1 _ F' H' hk' (h'.pushSh (.int _))⟩)
end
/-! ### comparisons -/
theorem lc_cmp {op : CmpOp} {r : R2} {g : τ1 → τ2 → Bool} (ho : OpR X (compareOp op) r) (ha : LO X G1 env a S1 e1 fa) (hb : ∀ p1, LO X (G2 p1) (e1 p1) b S2 (e2 p1) (fb p1)) (g1 : ∀ p1 p2, G1 (e2 p1 p2)) (g2 : ∀ p1 p2, G2 p1 (e2 p1 p2))
    (hr : ∀ K F H fp fq v u x y (Q : VK), K = X.K → Same F H → S1.rel K F H fp v x → S2.rel K F H fq u y → Q (.bl (g x y)) H → r v u H Q) :
    LC X env op a b (fun p : P1 × P2 => e2 p.1 p.2) (fun k => fa fun x p1 => fb p1 fun y p2 => k (g x y) (p1, p2)) :=
  ⟨r, ho, fun C F H σs es σ k ω Q hK hl h hk q => op2_run ha hb g1 g2 hK hl h hk fun x p1 y p2 v u F' H' fp fq hk' h' r1 r2 =>
    hr C.K F' H' fp fq v u x y Q hK h'.sF r1 r2 (q _ (p1, p2) F' H' hk' h')⟩
/-- .. with a check -/
theorem lc_cmpC {op : CmpOp} {r : R2} {c g : τ1 → τ2 → Bool} (ho : OpR X (compareOp op) r) (ha : LO X G1 env a S1 e1 fa) (hb : ∀ p1, LO X (G2 p1) (e1 p1) b S2 (e2 p1) (fb p1)) (g1 : ∀ p1 p2, G1 (e2 p1 p2)) (g2 : ∀ p1 p2, G2 p1 (e2 p1 p2))
    (hr : ∀ K F H fp fq v u x y (Q : VK), K = X.K → Same F H → c x y = true → S1.rel K F H fp v x → S2.rel K F H fq u y → Q (.bl (g x y)) H → r v u H Q) :
    LC X env op a b (fun p : P1 × P2 => e2 p.1 p.2) (fun k => fa fun x p1 => fb p1 fun y p2 => ck (c x y) (k (g x y) (p1, p2))) :=
  ⟨r, ho, fun C F H σs es σ k ω Q hK hl h hk q => op2_run ha hb g1 g2 hK hl h hk fun x p1 y p2 v u F' H' fp fq hk' h' r1 r2 => by
    obtain ⟨hc, hk'⟩ := ck_some hk'
    exact hr C.K F' H' fp fq v u x y Q hK h'.sF hc r1 r2 (q _ (p1, p2) F' H' hk' h')⟩
theorem lx_cmp {op : CmpOp} {e' : P → Env} {f : (Bool → P → Option Ω) → Option Ω} (h : LC X env op a b e' f) (hm : behindInMarks op b = false) : LX X env (.Compare a [op] [b] pos) (it eB) e' f := by
  obtain ⟨r, ho, h⟩ := h
  exact fun C F H σs es σ k ω Q hK hl hr hk q => tE.of X (pe_cmpR ho (peC X) (peC X) hm) (h C F H σs es σ k ω Q hK hl hr hk fun c p F' H' hk' h' => q c p _ F' H' hk' (h'.pushSh (.bl _)))
theorem lt_cmp {op : CmpOp} {e' : P → Env} {f : (Bool → P → Option Ω) → Option Ω} (h : LC X env op a b e' f) (hm : behindInMarks op b = false) : LT X env (.Compare a [op] [b] pos) e' f := by
  obtain ⟨r, ho, h⟩ := h
  exact fun C F H σs es σ k ω Q hK hl hr hk q => tT.of X (pt_cmpR ho (peC X) (peC X) hm) (h C F H σs es σ k ω _ hK hl hr hk fun c p F' H' hk' h' => ⟨c, rfl, q c p F' H' hk' h'⟩)
section
variable {fa : (Int → P1 → Option Ω) → Option Ω} {fb : P1 → (Int → P2 → Option Ω) → Option Ω}
theorem lc_int {op : CmpOp} {r : R2} {g : Int → Int → Bool} (ho : OpR X (compareOp op) r) (hr : ∀ i j H (Q : VK), Q (.bl (g i j)) H → r (.int i) (.int j) H Q) (ha : LX X env a (it eI) e1 fa) (hb : ∀ p1, LX X (e1 p1) b (it eI) (e2 p1) (fb p1)) :
    LC X env op a b (fun p : P1 × P2 => e2 p.1 p.2) (fun k => fa fun x p1 => fb p1 fun y p2 => k (g x y) (p1, p2)) :=
  lc_cmp ho (lo_of ha) (fun p1 => lo_of (hb p1)) (fun _ _ => trivial) (fun _ _ => trivial) fun K F H fp fq v u x y Q _ _ r1 r2 q => by
    obtain ⟨_, r1⟩ := r1
    obtain ⟨_, r2⟩ := r2
    cases r1; cases r2
    exact hr x y H Q q
theorem lc_lt (ha : LX X env a (it eI) e1 fa) (hb : ∀ p1, LX X (e1 p1) b (it eI) (e2 p1) (fb p1)) : LC X env .Lt a b (fun p : P1 × P2 => e2 p.1 p.2) (fun k => fa fun x p1 => fb p1 fun y p2 => k (decide (x < y)) (p1, p2)) := lc_int op_lt (fun i j _ _ q => ⟨i, j, rfl, rfl, q⟩) ha hb
theorem lc_le (ha : LX X env a (it eI) e1 fa) (hb : ∀ p1, LX X (e1 p1) b (it eI) (e2 p1) (fb p1)) : LC X env .LtE a b (fun p : P1 × P2 => e2 p.1 p.2) (fun k => fa fun x p1 => fb p1 fun y p2 => k (decide (x ≤ y)) (p1, p2)) := lc_int op_le (fun i j _ _ q => ⟨i, j, rfl, rfl, q⟩) ha hb
theorem lc_gt (ha : LX X env a (it eI) e1 fa) (hb : ∀ p1, LX X (e1 p1) b (it eI) (e2 p1) (fb p1)) : LC X env .Gt a b (fun p : P1 × P2 => e2 p.1 p.2) (fun k => fa fun x p1 => fb p1 fun y p2 => k (decide (y < x)) (p1, p2)) := lc_int op_gt (fun i j _ _ q => ⟨i, j, rfl, rfl, q⟩) ha hb
theorem lc_ge (ha : LX X env a (it eI) e1 fa) (hb : ∀ p1, LX X (e1 p1) b (it eI) (e2 p1) (fb p1)) : LC X env .GtE a b (fun p : P1 × P2 => e2 p.1 p.2) (fun k => fa fun x p1 => fb p1 fun y p2 => k (decide (y ≤ x)) (p1, p2)) := lc_int op_ge (fun i j _ _ q => ⟨i, j, rfl, rfl, q⟩) ha hb
theorem lc_eqI (ha : LX X env a (it eI) e1 fa) (hb : ∀ p1, LX X (e1 p1) b (it eI) (e2 p1) (fb p1)) : LC X env .Eq a b (fun p : P1 × P2 => e2 p.1 p.2) (fun k => fa fun x p1 => fb p1 fun y p2 => k (decide (x = y)) (p1, p2)) :=
  lc_int op_eq (fun i j _ _ q => ⟨rfl, by simpa using q⟩) ha hb
theorem lc_neI (ha : LX X env a (it eI) e1 fa) (hb : ∀ p1, LX X (e1 p1) b (it eI) (e2 p1) (fb p1)) : LC X env .NotEq a b (fun p : P1 × P2 => e2 p.1 p.2) (fun k => fa fun x p1 => fb p1 fun y p2 => k (!decide (x = y)) (p1, p2)) :=
  lc_int op_ne (fun i j _ _ q => ⟨rfl, by simpa using q⟩) ha hb
end
/-! ### truth -/
theorem lt_val {e' : P → Env} {f : (Bool → P → Option Ω) → Option Ω} (h : LX X env a (it eB) e' f) (he : ∀ whole, isTrue a X.env whole = (do let v ← whole; standAt a.pos; holding [v] (truthy v)) := by intro _; rfl) : LT X env a e' f :=
  fun C F H σs es σ k ω Q hK hl hr hk q => tT.of X (pt_val (peC X) he) (lo_run (lo_of h) (fun _ => trivial) hK hl hr hk fun x p1 v F' H' fp hk' h' r => by
    obtain ⟨_, r⟩ := r
    cases r
    exact ⟨x, rfl, q x p1 F' H' hk' h'⟩)
theorem lt_not {e' : P → Env} {f : (Bool → P → Option Ω) → Option Ω} (h : LT X env a e' f) : LT X env (.UnaryOp .Not a pos) e' (fun k => f fun c p => k (!c) p) :=
  fun C F H σs es σ k ω Q hK hl hr hk q => tT.of X (pt_not (ptC X)) (h C F H σs es σ _ ω _ hK hl hr hk fun c p F' H' hk' h' => q _ p F' H' hk' h')
end
end Z

set_option Elab.async false
set_option linter.all false
set_option maxRecDepth 100000
namespace Z
open PySem PySem.Spec PyProof.Rows L2

/-! ### arguments -/
section
variable {X : Cx} {Ω : Type} {env : Env} {nm : Str} {pos : Pos} {a b e : Expr} {xs : List Expr} {P P1 P2 A : Type} {τ τ1 τ2 α β : Type} {S : Stor τ} {S1 : Stor τ1} {S2 : Stor τ2} {E : Enc τ} {E1 : Enc τ1} {E2 : Enc τ2}
  {G : Env → Prop} {G1 : Env → Prop} {G2 : P1 → Env → Prop} {e' : P → Env} {e1 : P1 → Env} {e2 : P1 → P2 → Env} {fa : (τ1 → P1 → Option Ω) → Option Ω} {fb : P1 → (τ2 → P2 → Option Ω) → Option Ω} {f : (τ → P → Option Ω) → Option Ω}

theorem la_nil : LA X env [] (fun _ : Unit => []) (fun _ : Unit => env) (fun (k : Unit → Unit → Option Ω) => k () ()) :=
  fun C F H σs es σ k ω Q hK hl h hk q => tAs.of X pa_nil (q () () [] F H hk rfl h)
theorem la_cons {sl : A → Env} {fr : P1 → (A → P2 → Option Ω) → Option Ω} (h1 : LX X env e S1 e1 fa) (h2 : ∀ p1, LA X (e1 p1) xs sl (e2 p1) (fr p1)) (hs : starEach (e :: xs) X.env = (false, eval e X.env) :: starEach xs X.env := by rfl) :
    LA X env (e :: xs) (fun p : τ1 × A => .st none τ1 S1 p.1 :: sl p.2) (fun p : P1 × P2 => e2 p.1 p.2) (fun k => fa fun x p1 => fr p1 fun r p2 => k (x, r) (p1, p2)) :=
  fun C F H σs es σ k ω Q hK hl h hk q => tAs.of X (pa_cons (peC X) (paC X) hs) (h1 C F H σs es σ _ ω _ hK hl h hk fun x p1 v F' H' hk' h' =>
    h2 p1 C F' H' (some v :: σs) (.st none τ1 S1 x :: es) σ _ ω _ hK (by simp [hl]) h' hk' fun r p2 vs F2 H2 hk2 hlv h3 => by
      refine q (x, r) (p1, p2) (v :: vs) F2 H2 hk2 (by simpa using hlv) ?_
      exact ER.rot (σt := vs.map some) (et := sl r) h3 hlv)
/-- a name by its value alone: lent to a call -/
theorem la_lend {sl : A → Env} {fr : (A → P → Option Ω) → Option Ω} (i : Nat) {w : Option V} {x : τ} (he : env[i]? = some (.st w τ S x)) (hN : X.N[i]? = some nm) (hv : Vis X.env.scope nm) (h2 : LA X env xs sl e' fr) (hd : (nm == ("__debug__" : Str)) = false := by decide) (hcd : (nm == ("__classdict__" : Str)) = false := by decide)
    (hs : starEach (Expr.Name nm pos :: xs) X.env = (false, eval (Expr.Name nm pos) X.env) :: starEach xs X.env := by rfl) :
    ∀ (C : Ck) (F H : Hp) (σs : List (Option V)) (es : Env) (σ : List (Option V)) (k : A → P → Option Ω) (ω : Ω) (Q : List V → Hp → Prop), C.K = X.K → σs.length = es.length → ER C F H (σs ++ σ) (es ++ env) → fr k = some ω →
    (∀ a p (v : V) (vs : List V) F' H', k a p = some ω → σ[i]? = some (some v) → (vs.map some).length = (sl a).length → ER C F' H' (vs.map some ++ (σs ++ σ)) (sl a ++ (es ++ e' p)) → Q (v :: vs) H') → tAs X (Expr.Name nm pos :: xs) σ H Q :=
  fun C F H σs es σ k ω Q hK hl h hk q => tAs.of X (pa_cons (peC X) (paC X) hs) (tE.of X (pe_var hN hv hd hcd) (by
    obtain ⟨v, fp, e1, r⟩ := h.lookF hl he
    exact ⟨v, e1, h2 C F H σs es σ k ω _ hK hl h hk fun a p vs F' H' hk' hlv h' => q a p v vs F' H' hk' e1 hlv h'⟩))
/-- shared slots and the data in them -/
inductive ShL : Env → List PyData → Prop
  | nil : ShL [] []
  | cons {τ : Type} {E : Enc τ} {x : τ} {en : Env} {ds : List PyData} : ShL en ds → ShL (.st none τ (it E) x :: en) (E.enc x :: ds)
theorem ShL.rep {C : Ck} {F H : Hp} : ∀ {sl : Env} {ds : List PyData}, ShL sl ds → ∀ {vs : List V} {σ : List (Option V)} {env : Env}, (vs.map some).length = sl.length → ER C F H (vs.map some ++ σ) (sl ++ env) → RepAll C.K F vs ds
  | _, _, .nil, vs, σ, env, hl, h => by
    cases vs with
    | nil => exact .nil
    | cons v vs => simp at hl
  | _, _, .cons r, vs, σ, env, hl, h => by
    cases vs with
    | nil => simp at hl
    | cons v vs =>
      obtain ⟨v', fp, e1, q⟩ := h.look (i := 0) rfl
      simp at e1; subst e1
      exact .cons q.2 (r.rep (by simpa using hl) h.pop)
theorem RepAll.zero {K : Fg} {F : Hp} {τ : Type} {E : Enc τ} {H : Hp} : ∀ {vs : List V} {xs : List τ}, RepAll K F vs (xs.map E.enc) → RelAll ((it E).rel K F H) [] vs xs
  | [], [], _ => .nil
  | [], _ :: _, h => by cases h
  | _ :: _, [], h => by cases h
  | v :: vs, x :: xs, h => by
    cases h with
    | cons h1 h2 => exact RelAll.cons (fp := []) (fps := []) ⟨rfl, h1⟩ (RepAll.zero h2)
theorem RelAll.zero {K : Fg} {F : Hp} {τ : Type} {E : Enc τ} {H : Hp} : ∀ {fp : List Addr} {vs : List V} {xs : List τ}, RelAll ((it E).rel K F H) fp vs xs → fp = [] ∧ RepAll K F vs (xs.map E.enc)
  | _, _, _, .nil => ⟨rfl, .nil⟩
  | _, _, _, .cons h r => by
    obtain ⟨e, q⟩ := RelAll.zero r
    obtain ⟨e2, q2⟩ := h
    exact ⟨by rw [e, e2]; rfl, .cons q2 q⟩
/-- a tuple -/
theorem lx_tup {sl : A → Env} {fs : (A → P → Option Ω) → Option Ω} {j : Nat} (h : LA X env xs sl e' fs) (E : Enc τ) (g : A → τ) (ds : A → List PyData) (hd : ∀ a, ShL (sl a) (ds a)) (he : ∀ a, E.enc (g a) = .tuple (ds a)) (hz : xs.length ≤ 1000 := by decide) (hz2 : ∀ a, (sl a).length = xs.length := by intro _; rfl) :
    LX X env (.Tuple xs j pos) (it E) e' (fun k => fs fun a p => k (g a) p) :=
  fun C F H σs es σ k ω Q hK hl hr hk q => tE.of X (pe_tup (paC X)) (h C F H σs es σ _ ω _ hK hl hr hk fun a p vs F' H' hk' hlv h' => by
    refine ⟨?_, fun t nt => ?_⟩
    · have := hz2 a; simp at hlv; exact Nat.le_of_lt (small1000 (by omega))
    · have r := (hd a).rep hlv h'
      refine q (g a) p (.ref t) (upd F' t (.tup vs)) _ hk' (((h'.popN hlv).newF nt).pushSh ?_)
      rw [he]
      exact .tup (SqT.of upd_same) (r.mono (same_new ((h'.popN hlv).fnone nt))))
/-- a list of shared things: a new one, of one's own -/
theorem lx_list {sl : A → Env} {fs : (A → P → Option Ω) → Option Ω} (h : LA X env xs sl e' fs) (E : Enc τ) (g : A → List τ) (hd : ∀ a, ShL (sl a) ((g a).map E.enc)) (hz : xs.length ≤ 1000 := by decide) (hz2 : ∀ a, (sl a).length = xs.length := by intro _; rfl) :
    LX X env (.List xs pos) (ls (it E)) e' (fun k => fs fun a p => k (g a) p) :=
  fun C F H σs es σ k ω Q hK hl hr hk q => tE.of X (pe_lst (paC X)) (h C F H σs es σ _ ω _ hK hl hr hk fun a p vs F' H' hk' hlv h' => by
    refine ⟨?_, fun t nt => ?_⟩
    · have := hz2 a; simp at hlv; exact Nat.le_of_lt (small1000 (by omega))
    · have r := (hd a).rep hlv h'
      exact q (g a) p (.ref t) F' _ hk' ((h'.popN hlv).newOw nt ⟨t, vs, [], rfl, upd_same, r.zero, rfl⟩))

/-! ### sequences that are read -/
/-- a list that is tracked -/
structure LVm (S : Stor τ) (S1 : Stor α) (g : τ → List α) : Prop where
  view : ∀ {K : Fg} {F H : Hp} {fp : List Addr} {v : V} {x : τ}, Same F H → S.rel K F H fp v x → ∃ p vs fps, v = .ref p ∧ H p = some (.lst vs) ∧ RelAll (S1.rel K F H) fps vs (g x)
/-- a list -/
structure LVw (S : Stor τ) (S1 : Stor α) (g : τ → List α) : Prop where
  view : ∀ {K : Fg} {F H : Hp} {fp : List Addr} {v : V} {x : τ}, Same F H → S.rel K F H fp v x → ∃ p vs fps, v = .ref p ∧ SqL K H p vs ∧ RelAll (S1.rel K F H) fps vs (g x)
structure TVw (S : Stor τ) (S1 : Stor α) (g : τ → List α) : Prop where
  view : ∀ {K : Fg} {F H : Hp} {fp : List Addr} {v : V} {x : τ}, Same F H → S.rel K F H fp v x → ∃ p vs fps, v = .ref p ∧ SqT K H p vs ∧ RelAll (S1.rel K F H) fps vs (g x)
theorem LVm.w {S1 : Stor α} {g : τ → List α} (h : LVm S S1 g) : LVw S S1 g := ⟨fun s r => let ⟨p, vs, fps, e, h1, h2⟩ := h.view s r; ⟨p, vs, fps, e, SqL.of h1, h2⟩⟩
theorem lm_sh : LVm (it (eL E)) (it E) id := ⟨fun {K F H fp v x} s r => by
  obtain ⟨_, r⟩ := r
  generalize hd : (eL E).enc x = d at r
  cases r with
  | lst h1 h2 =>
    simp only [eL] at hd
    injection hd with hd
    subst hd
    exact ⟨_, _, _, rfl, s _ _ h1, h2.zero⟩
  | _ => simp [eL] at hd⟩
theorem lm_ow {S1 : Stor α} : LVm (ls S1) S1 id := ⟨fun {K F H fp v x} s r => by
  obtain ⟨p, vs, fps, rfl, h, q, rfl⟩ := r
  exact ⟨p, vs, fps, rfl, h, q⟩⟩
theorem tv_sh : TVw (it (eV E)) (it E) id := ⟨fun {K F H fp v x} s r => by
  obtain ⟨_, r⟩ := r
  generalize hd : (eV E).enc x = d at r
  cases r with
  | tup h1 h2 =>
    simp only [eV] at hd
    injection hd with hd
    subst hd
    exact ⟨_, _, _, rfl, same_sqT s h1, h2.zero⟩
  | _ => simp [eV] at hd⟩
theorem atI_map {α β : Type} (f : α → β) (xs : List α) (i : Int) : atI (xs.map f) i = (atI xs i).map f := by
  unfold atI
  rw [List.length_map]
  cases ixN xs.length i with
  | none => rfl
  | some j => simp
theorem RepAll.at {K : Fg} {F : Hp} {vs : List V} {xs : List τ} {i : Int} {y : τ} (h : RepAll K F vs (xs.map E.enc)) (e : atI xs i = some y) : ∃ v, atI vs i = some v ∧ Rep K F v (E.enc y) := by
  have hl : vs.length = xs.length := by have := h.length; simpa using this
  unfold atI at e ⊢
  rw [hl]
  cases hj : ixN xs.length i with
  | none => rw [hj] at e; cases e
  | some j =>
    rw [hj] at e
    have e' : xs[j]? = some y := e
    obtain ⟨v, h1, h2⟩ := h.get (i := j) (d := E.enc y) (by rw [List.getElem?_map, e']; rfl)
    exact ⟨v, h1, h2⟩
/-- xs[i] of a list -/
theorem lx_ix {g : τ1 → List α} {E1 : Enc α} {fb : P1 → (Int → P2 → Option Ω) → Option Ω} (hv : LVw S1 (it E1) g) (ha : LO X G env a S1 e1 fa) (hb : ∀ p1, LX X (e1 p1) b (it eI) (e2 p1) (fb p1)) (hg : ∀ p1 p2, G (e2 p1 p2)) (hp : PlainIx b := by exact fun _ _ => rfl) :
    LX X env (.Subscript a b pos) (it E1) (fun p : P1 × P2 => e2 p.1 p.2) (fun k => fa fun x p1 => fb p1 fun i p2 => (atI (g x) i).bind fun y => k y (p1, p2)) :=
  fun C F H σs es σ k ω Q hK hl h hk q => tE.of X (pe_ix ix_list (peC X) (peC X) hp) (op2_run ha (fun p1 => lo_of (hb p1)) hg (fun _ _ => trivial) hK hl h hk
    fun x p1 i p2 v u F' H' fp fq hk' h' r1 r2 => by
      obtain ⟨y, hy, hk'⟩ := bind_some hk'
      obtain ⟨_, r2⟩ := r2
      cases r2
      obtain ⟨p, vs, fps, rfl, hs, ra⟩ := hv.view h'.sF r1
      obtain ⟨w, hw, rw'⟩ := ra.zero.2.at hy
      exact ⟨p, vs, i, w, rfl, rfl, by rw [← hK]; exact hs, hw, q y (p1, p2) w F' H' hk' (h'.pushSh rw')⟩)
/-- .. of a tuple of one kind -/
theorem lx_ixV {g : τ1 → List α} {E1 : Enc α} {fb : P1 → (Int → P2 → Option Ω) → Option Ω} (hv : TVw S1 (it E1) g) (ha : LO X G env a S1 e1 fa) (hb : ∀ p1, LX X (e1 p1) b (it eI) (e2 p1) (fb p1)) (hg : ∀ p1 p2, G (e2 p1 p2)) (hp : PlainIx b := by exact fun _ _ => rfl) :
    LX X env (.Subscript a b pos) (it E1) (fun p : P1 × P2 => e2 p.1 p.2) (fun k => fa fun x p1 => fb p1 fun i p2 => (atI (g x) i).bind fun y => k y (p1, p2)) :=
  fun C F H σs es σ k ω Q hK hl h hk q => tE.of X (pe_ix ix_tup (peC X) (peC X) hp) (op2_run ha (fun p1 => lo_of (hb p1)) hg (fun _ _ => trivial) hK hl h hk
    fun x p1 i p2 v u F' H' fp fq hk' h' r1 r2 => by
      obtain ⟨y, hy, hk'⟩ := bind_some hk'
      obtain ⟨_, r2⟩ := r2
      cases r2
      obtain ⟨p, vs, fps, rfl, hs, ra⟩ := hv.view h'.sF r1
      obtain ⟨w, hw, rw'⟩ := ra.zero.2.at hy
      exact ⟨p, vs, i, w, rfl, rfl, by rw [← hK]; exact hs, hw, q y (p1, p2) w F' H' hk' (h'.pushSh rw')⟩)
/-- the n-th part of a tuple that has parts of its own kinds -/
structure Part (E : Enc τ) (n : Int) (E1 : Enc α) (g : τ → α) : Prop where
  is : ∀ x, ∃ ds, E.enc x = .tuple ds ∧ atI ds n = some (E1.enc (g x))
theorem Rep.tup_inv {K : Fg} {F : Hp} {v : V} {ds : List PyData} (h : Rep K F v (.tuple ds)) : ∃ p vs, v = .ref p ∧ SqT K F p vs ∧ RepAll K F vs ds := by
  cases h with
  | tup h1 h2 => exact ⟨_, _, rfl, h1, h2⟩
theorem Rep.lst_inv {K : Fg} {F : Hp} {v : V} {ds : List PyData} (h : Rep K F v (.list ds)) : ∃ p vs, v = .ref p ∧ F p = some (.lst vs) ∧ RepAll K F vs ds := by
  cases h with
  | lst h1 h2 => exact ⟨_, _, rfl, h1, h2⟩
theorem RepAll.atD {K : Fg} {F : Hp} {vs : List V} {ds : List PyData} {i : Int} {y : PyData} (h : RepAll K F vs ds) (e : atI ds i = some y) : ∃ v, atI vs i = some v ∧ Rep K F v y := by
  have hl : vs.length = ds.length := h.length
  unfold atI at e ⊢
  rw [hl]
  cases hj : ixN ds.length i with
  | none => rw [hj] at e; cases e
  | some j =>
    rw [hj] at e
    exact h.get e
theorem lx_part {n : Int} {g : τ1 → α} {E' : Enc α} {j : Nat} {cp : Pos} (hp : Part E1 n E' g) (ha : LX X env a (it E1) e1 fa) :
    LX X env (.Subscript a (.Constant (.int n) j cp) pos) (it E') e1 (fun k => fa fun x p1 => k (g x) p1) :=
  fun C F H σs es σ k ω Q hK hl h hk q => tE.of X (pe_ix ix_tup (peC X) pe_int fun _ _ => rfl) (lo_run (lo_of ha) (fun _ => trivial) hK hl h hk
    fun x p1 v F' H' fp hk' h' r1 => by
      obtain ⟨_, r1⟩ := r1
      obtain ⟨ds, e1, e2⟩ := hp.is x
      rw [e1] at r1
      obtain ⟨p, vs, rfl, h1, h2⟩ := r1.tup_inv
      obtain ⟨w, hw, rw'⟩ := h2.atD e2
      exact ⟨p, vs, n, w, rfl, rfl, by rw [← hK]; exact same_sqT h'.sF h1, hw, q (g x) p1 w F' H' hk' (h'.pushSh rw')⟩)
/-- .. n below 0: -1 -/
theorem lx_partN {n : Int} {g : τ1 → α} {E' : Enc α} {j : Nat} {cp up : Pos} (hp : Part E1 (-n) E' g) (ha : LX X env a (it E1) e1 fa) :
    LX X env (.Subscript a (.UnaryOp .USub (.Constant (.int n) j cp) up) pos) (it E') e1 (fun k => fa fun x p1 => k (g x) p1) :=
  fun C F H σs es σ k ω Q hK hl h hk q => tE.of X (pe_ix ix_tup (peC X) (pe_un un_neg pe_int) fun _ _ => rfl) (lo_run (lo_of ha) (fun _ => trivial) hK hl h hk
    fun x p1 v F' H' fp hk' h' r1 => by
      obtain ⟨_, r1⟩ := r1
      obtain ⟨ds, e1, e2⟩ := hp.is x
      rw [e1] at r1
      obtain ⟨p, vs, rfl, h1, h2⟩ := r1.tup_inv
      obtain ⟨w, hw, rw'⟩ := h2.atD e2
      exact ⟨n, rfl, p, vs, -n, w, rfl, rfl, by rw [← hK]; exact same_sqT h'.sF h1, hw, q (g x) p1 w F' H' hk' (h'.pushSh rw')⟩)
theorem part2_0 {A : Enc α} {B : Enc β} : Part (eT2 A B) 0 A (·.1) := ⟨fun _ => ⟨_, rfl, rfl⟩⟩
theorem part2_1 {A : Enc α} {B : Enc β} : Part (eT2 A B) 1 B (·.2) := ⟨fun _ => ⟨_, rfl, rfl⟩⟩
theorem part3_0 {γ : Type} {A : Enc α} {B : Enc β} {D : Enc γ} : Part (eT3 A B D) 0 A (·.1) := ⟨fun _ => ⟨_, rfl, rfl⟩⟩
theorem part3_1 {γ : Type} {A : Enc α} {B : Enc β} {D : Enc γ} : Part (eT3 A B D) 1 B (·.2.1) := ⟨fun _ => ⟨_, rfl, rfl⟩⟩
theorem part3_2 {γ : Type} {A : Enc α} {B : Enc β} {D : Enc γ} : Part (eT3 A B D) 2 D (·.2.2) := ⟨fun _ => ⟨_, rfl, rfl⟩⟩
theorem part4_0 {γ δ : Type} {A : Enc α} {B : Enc β} {D : Enc γ} {D' : Enc δ} : Part (eT4 A B D D') 0 A (·.1) := ⟨fun _ => ⟨_, rfl, rfl⟩⟩
theorem part4_1 {γ δ : Type} {A : Enc α} {B : Enc β} {D : Enc γ} {D' : Enc δ} : Part (eT4 A B D D') 1 B (·.2.1) := ⟨fun _ => ⟨_, rfl, rfl⟩⟩
theorem part4_2 {γ δ : Type} {A : Enc α} {B : Enc β} {D : Enc γ} {D' : Enc δ} : Part (eT4 A B D D') 2 D (·.2.2.1) := ⟨fun _ => ⟨_, rfl, rfl⟩⟩
theorem part4_3 {γ δ : Type} {A : Enc α} {B : Enc β} {D : Enc γ} {D' : Enc δ} : Part (eT4 A B D D') 3 D' (·.2.2.2) := ⟨fun _ => ⟨_, rfl, rfl⟩⟩
end
end Z

set_option Elab.async false
set_option linter.all false
set_option maxRecDepth 100000
namespace Z
open PySem PySem.Spec PyProof.Rows L2

/-! ### targets -/
def Eqo (ix : List Nat) (σ σ' : List (Option V)) : Prop := σ'.length = σ.length ∧ ∀ j, j ∉ ix → σ'[j]? = σ[j]?
theorem Eqo.refl (ix : List Nat) (σ : List (Option V)) : Eqo ix σ σ := ⟨rfl, fun _ _ => rfl⟩
theorem Eqo.trans {ix : List Nat} {a b c : List (Option V)} (h : Eqo ix a b) (g : Eqo ix b c) : Eqo ix a c := ⟨g.1.trans h.1, fun j m => (g.2 j m).trans (h.2 j m)⟩
theorem Eqo.mono {ix iy : List Nat} {a b : List (Option V)} (h : Eqo ix a b) (s : ∀ j ∈ ix, j ∈ iy) : Eqo iy a b := ⟨h.1, fun j m => h.2 j fun z => m (s j z)⟩
theorem Eqo.set {σ : List (Option V)} {i : Nat} {o : Option V} : Eqo [i] σ (σ.set i o) := ⟨by simp, fun j m => List.getElem?_set_ne (by simp at m; omega)⟩
theorem wipe_get (σ : List (Option V)) : ∀ (vs : List Nat) (j : Nat), (wipe σ vs)[j]? = if j ∈ vs then (if j < σ.length then some none else none) else σ[j]?
  | [], j => by simp [wipe]
  | v :: vs, j => by
    unfold wipe
    by_cases e : v = j
    · subst e
      by_cases hl : v < σ.length
      · rw [List.getElem?_set_self (by rw [wipe_length]; exact hl)]; simp [hl]
      · rw [List.getElem?_eq_none (by rw [List.length_set, wipe_length]; omega)]; simp [hl]
    · rw [List.getElem?_set_ne e, wipe_get σ vs j]
      have : (j ∈ v :: vs) = (j ∈ vs) := by simp; intro z; exact absurd z.symm e
      simp only [this]
theorem Eqo.wipe {ix : List Nat} {a b : List (Option V)} (h : Eqo ix a b) : wipe b ix = wipe a ix := by
  apply List.ext_getElem?
  intro j
  rw [wipe_get, wipe_get, h.1]
  by_cases m : j ∈ ix
  · rw [if_pos m, if_pos m]
  · rw [if_neg m, if_neg m]; exact h.2 j m
section
variable (X : Cx)
def tG (tg : Expr) : TG := fun v σ H Q => ∀ pins s u, Inv X pins σ H s → RelV v u → wpAny (model X.prog X.w) X.A (assign tg X.env u) (fun _ s' => ∃ σ' H', Inv X pins σ' H' s' ∧ Q σ' H') X.xe s
def tGs (ts : List Expr) : TGs := fun vs σ H Q => ∀ pins s us, Inv X pins σ H s → Vals vs us → wpAny (model X.prog X.w) X.A (assignInOrder ((assignEach ts X.env).map (·.2)) us) (fun _ s' => ∃ σ' H', Inv X pins σ' H' s' ∧ Q σ' H') X.xe s
theorem pgC {tg : Expr} : PG X tg (tG X tg) := ⟨fun pins s σ H v u Q I r h => h pins s u I r⟩
theorem pgsC {ts : List Expr} : PGs X ts (tGs X ts) := ⟨fun pins s σ H vs us Q I r h => h pins s us I r⟩
theorem tG.of {tg : Expr} {t : TG} {v : V} {σ : L2.St} {H : Hp} {Q : L2.St → Hp → Prop} (h : PG X tg t) (q : t v σ H Q) : tG X tg v σ H Q := fun pins s u I r => h.run pins s σ H v u Q I r q
theorem tGs.of {ts : List Expr} {t : TGs} {vs : List V} {σ : L2.St} {H : Hp} {Q : L2.St → Hp → Prop} (h : PGs X ts t) (q : t vs σ H Q) : tGs X ts vs σ H Q := fun pins s us I r => h.run pins s σ H vs us Q I r q
/-- a target: where its value goes -/
def LG (ix : List Nat) (env : Env) (tg : Expr) {τ : Type} (S : Stor τ) (envT : τ → Env) : Prop :=
  ∀ (C : Ck) (F H : Hp) (σs : List (Option V)) (es : Env) (σ : List (Option V)) (v : V) (a : τ) (Q : L2.St → Hp → Prop), C.K = X.K → σs.length = es.length → ER C F H (some v :: (σs ++ σ)) (.st none τ S a :: (es ++ env)) →
    (∀ σ', Eqo ix σ σ' → ER C F H (σs ++ σ') (es ++ envT a) → Q σ' H) → tG X tg v σ H Q
/-- targets for the parts of a tuple -/
def LGs (ix : List Nat) (env : Env) (tgs : List Expr) {A : Type} (sl : A → Env) (envT : A → Env) : Prop :=
  ∀ (C : Ck) (F H : Hp) (σs : List (Option V)) (es : Env) (σ : List (Option V)) (vs : List V) (a : A) (Q : L2.St → Hp → Prop), C.K = X.K → σs.length = es.length → (vs.map some).length = (sl a).length → ER C F H (vs.map some ++ (σs ++ σ)) (sl a ++ (es ++ env)) →
    (∀ σ', Eqo ix σ σ' → ER C F H (σs ++ σ') (es ++ envT a) → Q σ' H) → tGs X tgs vs σ H Q
end
section
variable {X : Cx} {Ω : Type} {env : Env} {nm : Str} {pos : Pos} {a b e tg : Expr} {xs tgs : List Expr} {P P1 P2 A : Type} {τ τ1 τ2 α β : Type} {S : Stor τ} {S1 : Stor τ1} {S2 : Stor τ2} {E : Enc τ} {E1 : Enc τ1} {E2 : Enc τ2} {ix : List Nat}
theorem lg_name (i : Nat) (hN : X.N.Nodup) (hi : X.N[i]? = some nm := by rfl) (hx : Loc X.env.scope nm := by first | exact Or.inl rfl | exact Or.inr rfl) (hl : i < env.length := by exact (Nat.lt_of_sub_eq_succ rfl)) (hf : X.fn nm = true ∨ X.env.scope.names.lookup nm = some .local := by first | exact .inl rfl | exact .inr rfl) : LG X [i] env (.Name nm pos) S (fun a => env.set i (.st none τ S a)) :=
  fun C F H σs es σ v a Q hK hls h q => tG.of X (pg_name hN hi hx hf) (q _ Eqo.set (h.asg hls hl))
theorem lgs_nil : LGs X [] env [] (fun _ : Unit => []) (fun _ : Unit => env) := fun C F H σs es σ vs a Q hK hl hv h q => tGs.of X pgs_nil (by
  cases vs with
  | nil => exact ⟨rfl, q σ (Eqo.refl _ _) h⟩
  | cons v vs => simp at hv)
theorem lgs_cons {i1 i2 : List Nat} {env1 : τ → Env} {sl : A → Env} {env2 : τ → A → Env} (h1 : LG X i1 env tg S env1) (h2 : ∀ x, LGs X i2 (env1 x) tgs sl (env2 x))
    (hs : (assignEach (tg :: tgs) X.env).map (·.2) = assign tg X.env :: (assignEach tgs X.env).map (·.2) := by rfl) : LGs X (i1 ++ i2) env (tg :: tgs) (fun p : τ × A => .st none τ S p.1 :: sl p.2) (fun p : τ × A => env2 p.1 p.2) :=
  fun C F H σs es σ vs a Q hK hl hv h q => tGs.of X (pgs_cons (pgC X) (pgsC X) hs) (by
    cases vs with
    | nil => simp at hv
    | cons v vs =>
      have hv' : (vs.map some).length = (sl a.2).length := by simpa using hv
      refine ⟨v, vs, rfl, h1 C F H (vs.map some ++ σs) (sl a.2 ++ es) σ v a.1 _ hK (by simp [hl]; simpa using hv') (by simpa [List.append_assoc] using h) fun σ' e1 h' => ?_⟩
      exact h2 a.1 C F H σs es σ' vs a.2 Q hK hl hv' (by simpa [List.append_assoc] using h') fun σ2 e2 h3 => q σ2 ((e1.mono fun j m => List.mem_append_left _ m).trans (e2.mono fun j m => List.mem_append_right _ m)) h3)
/-- data that stand on the stack as shared slots -/
theorem ER.pushAll {C : Ck} {F H : Hp} : ∀ {sl : Env} {ds : List PyData}, ShL sl ds → ∀ {vs : List V} {σ : List (Option V)} {env : Env}, RepAll C.K F vs ds → ER C F H σ env → (vs.map some).length = sl.length ∧ ER C F H (vs.map some ++ σ) (sl ++ env)
  | _, _, .nil, _, σ, env, r, h => by cases r; exact ⟨rfl, h⟩
  | _, _, .cons q, _, σ, env, r, h => by
    cases r with
    | cons r1 r2 =>
      obtain ⟨e, h'⟩ := ER.pushAll q r2 h
      exact ⟨by simpa using e, h'.pushSh r1⟩
theorem lg_tup {sl : A → Env} {envT : A → Env} {j n : Nat} (h : LGs X ix env tgs sl envT) (g : τ → A) (ds : A → List PyData) (hd : ∀ a, ShL (sl a) (ds a)) (he : ∀ x, E.enc x = .tuple (ds (g x))) (hc : X.calm = true)
    (hz : ∀ a, (sl a).length = n) (hn : (assignEach tgs X.env).length = n := by rfl) (hst : (assignEach tgs X.env).findIdx? (·.1) = none := by rfl) : LG X ix env (.Tuple tgs j pos) (it E) (fun x => envT (g x)) :=
  fun C F H σs es σ v a Q hK hl hr q => tG.of X (pg_tup hc (pgsC X) hn hst) (by
    obtain ⟨v', fp, e1, r⟩ := hr.look (i := 0) rfl
    simp at e1; subst e1
    obtain ⟨_, r⟩ := r
    rw [he] at r
    obtain ⟨p, vs, rfl, h1, h2⟩ := r.tup_inv
    obtain ⟨hlv, h'⟩ := ER.pushAll (hd (g a)) h2 hr.pop
    have hl2 : vs.length = n := by have := hz (g a); simp at hlv; omega
    exact ⟨p, vs, rfl, by rw [← hK]; exact same_sqT hr.sF h1, hl2, h C F H σs es σ vs (g a) Q hK hl hlv h' q⟩)
end

/-! ### what is walked -/
section
variable (X : Cx) {Ω : Type}
def tI (tg iter : Expr) : TI := fun σ H R => ∀ pins s, Inv X pins σ H s → wpAny (model X.prog X.w) X.A (eval iter X.env) (fun v s1 => wpAny (model X.prog X.w) X.A (pyIter v) (PIE X pins σ tg R) X.xe s1) X.xe s
theorem piC {tg iter : Expr} : PI X tg iter (tI X tg iter) := ⟨fun pins s σ H R I h => h pins s I⟩
theorem tI.of {tg iter : Expr} {t : TI} {σ : L2.St} {H : Hp} {R : It → Hp → Prop} (h : PI X tg iter t) (q : t σ H R) : tI X tg iter σ H R := fun pins s I => h.run pins s σ H R I q
/-- J yields xs, as long as the stack's top stands; each item may make new things -/
structure Yields (C : Ck) {α : Type} (S : Stor α) (J : It) (xs : List α) (σx : List (Option V)) (ex : Env) : Prop where
  len : σx.length = ex.length
  go : ∀ (i : Nat) (F H : Hp) (σ2 σb : List (Option V)) (e2 eb : Env), σ2.length = e2.length → ER C F H (σ2 ++ (σx ++ σb)) (e2 ++ (ex ++ eb)) →
    (∀ x, xs[i]? = some x → J.go i H ∧ ∀ v H', J.yld i H v H' → ∃ F', ER C F' H' (some v :: (σ2 ++ (σx ++ σb))) (.st none α S x :: (e2 ++ (ex ++ eb)))) ∧ (xs[i]? = none → J.stop i H)
def LI (env : Env) (tg iter : Expr) {α : Type} (S : Stor α) {P : Type} (env' : P → Env) (f : (List α → P → Option Ω) → Option Ω) : Prop :=
  ∀ (C : Ck) (F H : Hp) (σs : List (Option V)) (es : Env) (σ : List (Option V)) (k : List α → P → Option Ω) (ω : Ω) (R : It → Hp → Prop), C.K = X.K → σs.length = es.length → ER C F H (σs ++ σ) (es ++ env) → f k = some ω →
    (∀ xs p J F' H' (σx : List (Option V)) (ex : Env), k xs p = some ω → ER C F' H' (σx ++ (σs ++ σ)) (ex ++ (es ++ env' p)) → Yields C S J xs σx ex → R J H') → tI X tg iter σ H R
end
section
variable {X : Cx} {Ω : Type} {env : Env} {nm : Str} {pos : Pos} {a b e tg : Expr} {xs tgs : List Expr} {P P1 P2 A : Type} {τ τ1 τ2 α β : Type} {S : Stor τ} {S1 : Stor τ1} {S2 : Stor τ2} {E : Enc τ} {E1 : Enc τ1} {E2 : Enc τ2} {ix : List Nat} {e' : P → Env} {e1 : P1 → Env} {e2 : P1 → P2 → Env}
theorem li_list {g : τ → List α} {Ea : Enc α} {f : (τ → P → Option Ω) → Option Ω} (hv : LVw S (it Ea) g) (h : LX X env e S e' f) : LI X env tg e (it Ea) e' (fun k => f fun x p => k (g x) p) :=
  fun C F H σs es σ k ω R hK hl hr hk q => tI.of X (pi_list (peC X)) (h C F H σs es σ _ ω _ hK hl hr hk fun x p v F' H' hk' h' => by
    obtain ⟨v', fp, e1, r⟩ := h'.look (i := 0) rfl
    simp at e1; subst e1
    obtain ⟨p0, vs, fps, rfl, hs, ra⟩ := hv.view h'.sF r
    refine ⟨p0, rfl, ⟨vs, by rw [← hK]; exact hs⟩, q (g x) p (Itl X.K p0) F' H' [some (.ref p0)] [.st none τ S x] hk' h' ⟨rfl, fun i F2 H2 σ2 σb e2 eb hl2 h2 => ?_⟩⟩
    obtain ⟨v', fp', e1, r'⟩ := h2.look (i := e2.length + 0) (by rw [at_app _ rfl]; rfl)
    rw [at_app _ hl2] at e1
    simp at e1; subst e1
    obtain ⟨p1, ws, fps', e3, hs', ra'⟩ := hv.view h2.sF r'
    cases e3
    rw [hK] at hs'
    have rp := ra'.zero.2
    refine ⟨fun y hy => ?_, fun hn => ?_⟩
    · obtain ⟨w, hw, rw'⟩ := rp.get (i := i) (d := Ea.enc y) (by rw [List.getElem?_map, hy]; rfl)
      refine ⟨⟨ws, w, hs', hw⟩, fun v H' hy' => ⟨F2, ?_⟩⟩
      obtain ⟨e4, hy'⟩ := hy'
      have := hy' ws hs'
      rw [hw] at this; cases this
      rw [e4]
      exact h2.pushSh rw'
    · refine ⟨ws, hs', ?_⟩
      have := rp.length
      simp at this
      have := List.getElem?_eq_none_iff.mp hn
      omega)
/-- the ints of a range -/
def rangeL (lo hi : Int) : List Int := (List.range (hi - lo).toNat).map fun i => lo + (i : Nat)
def rgOk (lo hi : Int) : Bool := decide (-(2 ^ 62) ≤ lo ∧ lo < 2 ^ 62 ∧ -(2 ^ 62) ≤ hi ∧ hi < 2 ^ 62)
theorem yields_range {C : Ck} {lo : Int} {hi : Int} : Yields C (it eI) (Itr lo (hi - lo).toNat) (rangeL lo hi) [] [] := ⟨rfl, fun i F H σ2 σb e2 eb hl2 h2 => by
  refine ⟨fun y hy => ?_, fun hn => ?_⟩
  · unfold rangeL at hy
    rw [List.getElem?_map] at hy
    by_cases hi : i < (hi - lo).toNat
    · rw [List.getElem?_range hi] at hy
      simp at hy; subst hy
      refine ⟨hi, fun v H' hy' => ⟨F, ?_⟩⟩
      obtain ⟨e1, e2⟩ := hy'
      rw [e1, e2]
      exact h2.pushSh (.int _)
    · rw [List.getElem?_eq_none (by simpa using hi)] at hy; cases hy
  · unfold rangeL at hn
    rw [List.getElem?_eq_none_iff] at hn
    simp at hn
    show (hi - lo).toNat ≤ i
    omega⟩
theorem li_range2 {f1 : (Int → P1 → Option Ω) → Option Ω} {f2 : P1 → (Int → P2 → Option Ω) → Option Ω} {p : Pos} (hg : Gl X "range") (hm : X.mg "range" = none) (h1 : LX X env a (it eI) e1 f1) (h2 : ∀ p1, LX X (e1 p1) b (it eI) (e2 p1) (f2 p1))
    (hs : starEach [a, b] X.env = [(false, eval a X.env), (false, eval b X.env)] := by rfl) (hs2 : starEach [b] X.env = [(false, eval b X.env)] := by rfl) (hs3 : starEach [a, b] X.env = (false, eval a X.env) :: starEach [b] X.env := by rfl) (hs4 : starEach [b] X.env = (false, eval b X.env) :: starEach [] X.env := by rfl) :
    LI X env tg (.Call (.Name "range" p) [a, b] [] pos) (it eI) (fun q : P1 × P2 => e2 q.1 q.2) (fun k => f1 fun x p1 => f2 p1 fun y p2 => ck (rgOk x y) (k (rangeL x y) (p1, p2))) :=
  fun C F H σs es σ k ω R hK hl hr hk q => tI.of X (pi_range2 hg hm (pa_cons (peC X) (pa_cons (peC X) pa_nil hs4) hs3) hs hs2) (op2_run (lo_of h1) (fun p1 => lo_of (h2 p1)) (fun _ _ => trivial) (fun _ _ => trivial) hK hl hr hk
    fun x p1 y p2 v u F' H' fp fq hk' h' r1 r2 => by
      obtain ⟨hc, hk'⟩ := ck_some hk'
      obtain ⟨_, r1⟩ := r1
      obtain ⟨_, r2⟩ := r2
      cases r1; cases r2
      exact ⟨x, y, rfl, of_decide_eq_true (p := -(2 ^ 62) ≤ x ∧ x < 2 ^ 62 ∧ -(2 ^ 62) ≤ y ∧ y < 2 ^ 62) hc, q (rangeL x y) (p1, p2) _ F' H' [] [] hk' h' yields_range⟩)
theorem li_range1 {f1 : (Int → P1 → Option Ω) → Option Ω} {p : Pos} (hg : Gl X "range") (hm : X.mg "range" = none) (h1 : LX X env a (it eI) e1 f1)
    (hs : starEach [a] X.env = [(false, eval a X.env)] := by rfl) (hs4 : starEach [a] X.env = (false, eval a X.env) :: starEach [] X.env := by rfl) :
    LI X env tg (.Call (.Name "range" p) [a] [] pos) (it eI) e1 (fun k => f1 fun y p1 => ck (rgOk 0 y) (k (rangeL 0 y) p1)) :=
  fun C F H σs es σ k ω R hK hl hr hk q => tI.of X (pi_range1 hg hm (pa_cons (peC X) pa_nil hs4) hs) (lo_run (lo_of h1) (fun _ => trivial) hK hl hr hk
    fun y p1 v F' H' fp hk' h' r1 => by
      obtain ⟨hc, hk'⟩ := ck_some hk'
      obtain ⟨_, r1⟩ := r1
      cases r1
      have hc' := of_decide_eq_true (p := -(2 ^ 62) ≤ (0 : Int) ∧ (0 : Int) < 2 ^ 62 ∧ -(2 ^ 62) ≤ y ∧ y < 2 ^ 62) hc
      have e0 : (y - 0).toNat = y.toNat := by omega
      refine ⟨y, rfl, hc'.2.2.1, hc'.2.2.2, ?_⟩
      rw [← e0]
      exact q (rangeL 0 y) p1 _ F' H' [] [] hk' h' yields_range)
end

/-! ### statements -/
/-- a loop over items: go on, or out -/
def forO {α S Ω : Type} : List α → S → (α → S → (S → Option Ω) → Option Ω) → (S → Option Ω) → Option Ω
  | [], s, _, k => k s
  | x :: xs, s, b, k => b x s fun s' => forO xs s' b k
/-- a loop with fuel -/
def whileO {S Ω : Type} : Nat → S → (S → (S → Option Ω) → Option Ω) → Option Ω
  | 0, _, _ => none
  | n + 1, s, b => b s fun s' => whileO n s' b
section
variable {X : Cx} {R I Ω : Type} {SR : Stor R} {envR : I → Env} {kr : R → I → Option Ω} {bk ct : Lp Ω} {env : Env} {nm : Str} {pos : Pos} {c e tg iter : Expr} {sts sa sb rest : List Stmt} {P A : Type} {τ α : Type} {S : Stor τ} {Sa : Stor α} {e' : P → Env} {ix : List Nat} {J J1 : Type} {envJ : J → Env} {env1 : J1 → Env}
theorem lb_end (j : J) (hs : Sub env (envJ j)) : LB X SR envR kr bk ct env [] envJ (fun kn => kn j) :=
  fun C F H σs es σ kn ω D hK hl h hk qn qb qc qr => tSs.of X pss_nil (qn j F H σ hk (h.subF hs))
theorem lb_sub {env0 : Env} {f : (J → Option Ω) → Option Ω} (hs : Sub env env0) (h : LB X SR envR kr bk ct env0 sts envJ f) : LB X SR envR kr bk ct env sts envJ f :=
  fun C F H σs es σ kn ω D hK hl hr hk qn qb qc qr => h C F H σs es σ kn ω D hK hl (hr.subF hs) hk qn qb qc qr
/-- a slot is shared from here on -/
theorem lb_frz {E : Enc τ} {x : τ} {f : (J → Option Ω) → Option Ω} (i : Nat) (fz : Frz S E) (he : env[i]? = some (.st none τ S x)) (h : LB X SR envR kr bk ct (env.set i (.st none τ (it E) x)) sts envJ f) : LB X SR envR kr bk ct env sts envJ f :=
  fun C F H σs es σ kn ω D hK hl hr hk qn qb qc qr => by
    obtain ⟨F', sF, h'⟩ := hr.freeze (i := es.length + i) fz (by rw [at_app _ rfl]; exact he)
    rw [List.set_append_right _ _ (Nat.le_add_right _ _), Nat.add_sub_cancel_left] at h'
    exact h C F' H σs es σ kn ω D hK hl h' hk qn qb qc qr
theorem lb_asg {f : (τ → P → Option Ω) → Option Ω} {fr : τ → P → (J → Option Ω) → Option Ω} {envT : P → τ → Env} (he : LX X env e S e' f) (hg : ∀ p, LG X ix (e' p) tg S (envT p)) (hr : ∀ x p, LB X SR envR kr bk ct (envT p x) rest envJ (fr x p))
    (hs : swapsWithSole [tg] e pos.line X.env = pure false := by rfl) (hw : swappedStores [tg] e X.env = pure none := by rfl) (h1 : (assignEach [tg] X.env).map (·.2) = [assign tg X.env] := by rfl) :
    LB X SR envR kr bk ct env (.Assign [tg] e pos :: rest) envJ (fun kn => f fun x p => fr x p kn) :=
  fun C F H σs es σ kn ω D hK hl h hk qn qb qc qr => tSs.of X (pss_cons (ps_asg (peC X) (pgC X) hs hw h1) (pssC X)) (he C F H σs es σ _ ω _ hK hl h hk fun x p v F' H' hk' h' =>
    hg p C F' H' σs es σ v x _ hK hl h' fun σ' _ h2 => hr x p C F' H' σs es σ' kn ω D hK hl h2 hk' qn qb qc qr)
theorem lb_set {f : (τ → P → Option Ω) → Option Ω} {fr : τ → P → (J → Option Ω) → Option Ω} {pos' : Pos} (i : Nat) (hN : X.N.Nodup) (he : LX X env e S e' f) (hr : ∀ x p, LB X SR envR kr bk ct ((e' p).set i (.st none τ S x)) rest envJ (fr x p))
    (hi : X.N[i]? = some nm := by rfl) (hx : Loc X.env.scope nm := by first | exact Or.inl rfl | exact Or.inr rfl) (hlt : ∀ p, i < (e' p).length := by exact (fun _ => Nat.lt_of_sub_eq_succ rfl)) (hf : X.fn nm = true ∨ X.env.scope.names.lookup nm = some .local := by first | exact .inl rfl | exact .inr rfl) (hs : swapsWith e (some (.Name nm pos')) pos.line X.env = pure false := by rfl) :
    LB X SR envR kr bk ct env (.Assign [.Name nm pos'] e pos :: rest) envJ (fun kn => f fun x p => fr x p kn) :=
  fun C F H σs es σ kn ω D hK hl h hk qn qb qc qr => tSs.of X (pss_cons (ps_set hN hi hx (peC X) hs hf) (pssC X)) (he C F H σs es σ _ ω _ hK hl h hk fun x p v F' H' hk' h' =>
    hr x p C F' H' σs es (σ.set i (some v)) kn ω D hK hl (h'.asg hl (hlt p)) hk' qn qb qc qr)
theorem lb_if {f : (Bool → P → Option Ω) → Option Ω} {fa fb : P → (J1 → Option Ω) → Option Ω} {fr : J1 → (J → Option Ω) → Option Ω} (hc : LT X env c e' f) (ha : ∀ p, LB X SR envR kr bk ct (e' p) sa env1 (fa p)) (hb : ∀ p, LB X SR envR kr bk ct (e' p) sb env1 (fb p)) (hr : ∀ j, LB X SR envR kr bk ct (env1 j) rest envJ (fr j)) :
    LB X SR envR kr bk ct env (.If c sa sb pos :: rest) envJ (fun kn => f fun b p => if b = true then fa p fun j => fr j kn else fb p fun j => fr j kn) :=
  fun C F H σs es σ kn ω D hK hl h hk qn qb qc qr => tSs.of X (pss_cons (ps_if (ptC X) (pssC X) (pssC X)) (pssC X)) (hc C F H σs es σ _ ω _ hK hl h hk fun b p F' H' hk' h' => by
    cases b with
    | true =>
      rw [if_pos rfl] at hk'
      show if true = true then _ else _
      rw [if_pos rfl]
      exact ha p C F' H' σs es σ _ ω _ hK hl h' hk' (fun j F2 H2 σ2 hk2 h2 => hr j C F2 H2 σs es σ2 kn ω D hK hl h2 hk2 qn qb qc qr) qb qc qr
    | false =>
      rw [if_neg Bool.false_ne_true] at hk'
      show if false = true then _ else _
      rw [if_neg Bool.false_ne_true]
      exact hb p C F' H' σs es σ _ ω _ hK hl h' hk' (fun j F2 H2 σ2 hk2 h2 => hr j C F2 H2 σs es σ2 kn ω D hK hl h2 hk2 qn qb qc qr) qb qc qr)
/-- an if whose body never goes on -/
theorem lb_ifr {f : (Bool → P → Option Ω) → Option Ω} {fa : P → (Empty → Option Ω) → Option Ω} {fr : P → (J → Option Ω) → Option Ω} (hc : LT X env c e' f) (ha : ∀ p, LB X SR envR kr bk ct (e' p) sa (fun z : Empty => z.elim) (fa p)) (hr : ∀ p, LB X SR envR kr bk ct (e' p) rest envJ (fr p)) :
    LB X SR envR kr bk ct env (.If c sa [] pos :: rest) envJ (fun kn => f fun b p => if b = true then fa p (fun z => z.elim) else fr p kn) :=
  fun C F H σs es σ kn ω D hK hl h hk qn qb qc qr => tSs.of X (pss_cons (ps_if (ptC X) (pssC X) pss_nil) (pssC X)) (hc C F H σs es σ _ ω _ hK hl h hk fun b p F' H' hk' h' => by
    cases b with
    | true =>
      rw [if_pos rfl] at hk'
      show if true = true then _ else _
      rw [if_pos rfl]
      exact ha p C F' H' σs es σ _ ω _ hK hl h' hk' (fun z => z.elim) qb qc qr
    | false =>
      rw [if_neg Bool.false_ne_true] at hk'
      show if false = true then _ else _
      rw [if_neg Bool.false_ne_true]
      exact hr p C F' H' σs es σ kn ω D hK hl h' hk' qn qb qc qr)
theorem lb_ret {f : (R → P → Option Ω) → Option Ω} (he : LX X env e SR e' f) (g : P → I) (hs : ∀ p, Sub (e' p) (envR (g p))) : LB X SR envR kr bk ct env (.Return (some e) pos :: rest) envJ (fun _ => f fun x p => kr x (g p)) :=
  fun C F H σs es σ kn ω D hK hl h hk qn qb qc qr => tSs.of X (pss_cons (ps_ret (peC X)) (pssC X)) (he C F H σs es σ _ ω _ hK hl h hk fun x p v F' H' hk' h' =>
    qr x (g p) v F' H' σ hk' (ER.sub h' (.keep ((hs p).pre es))))
theorem lb_brk (j : bk.J) (hs : Sub env (bk.env j)) : LB X SR envR kr bk ct env (.Break pos :: rest) envJ (fun _ => bk.k j) :=
  fun C F H σs es σ kn ω D hK hl h hk qn qb qc qr => tSs.of X (pss_cons ps_break (pssC X)) (qb j F H σ hk (h.subF hs))
theorem lb_cont (j : ct.J) (hs : Sub env (ct.env j)) : LB X SR envR kr bk ct env (.Continue pos :: rest) envJ (fun _ => ct.k j) :=
  fun C F H σs es σ kn ω D hK hl h hk qn qb qc qr => tSs.of X (pss_cons ps_continue (pssC X)) (qc j F H σ hk (h.subF hs))
theorem lb_pass {f : (J → Option Ω) → Option Ω} (hr : LB X SR envR kr bk ct env rest envJ f) : LB X SR envR kr bk ct env (.Pass pos :: rest) envJ f :=
  fun C F H σs es σ kn ω D hK hl h hk qn qb qc qr => tSs.of X (pss_cons ps_pass (pssC X)) (hr C F H σs es σ kn ω D hK hl h hk qn qb qc qr)
/-- an expression for what it does -/
theorem lb_expr {f : (τ → P → Option Ω) → Option Ω} {fr : P → (J → Option Ω) → Option Ω} (he : LX X env e S e' f) (hr : ∀ p, LB X SR envR kr bk ct (e' p) rest envJ (fr p)) (hs : swapsWith e none pos.line X.env = pure false := by rfl) :
    LB X SR envR kr bk ct env (.Expr e pos :: rest) envJ (fun kn => f fun _ p => fr p kn) :=
  fun C F H σs es σ kn ω D hK hl h hk qn qb qc qr => tSs.of X (pss_cons (ps_expr (peC X) hs) (pssC X)) (he C F H σs es σ _ ω _ hK hl h hk fun x p v F' H' hk' h' =>
    hr p C F' H' σs es σ kn ω D hK hl h'.pop hk' qn qb qc qr)
/-- a for; T: what it carries -/
theorem lb_for {T : Type} {envT : T → Env} {envX : T → α → Env} {f : (List α → P → Option Ω) → Option Ω} {fb : α → T → (T → Option Ω) → (T → Option Ω) → (T → Option Ω) → Option Ω} {fr : T → (J → Option Ω) → Option Ω}
    (hp : PassesOwn (model X.prog X.w) X.A X.env X.xe) (hc : X.calm = true) (hi : LI X env tg iter Sa e' f) (t0 : P → T) (h0 : ∀ p, Sub (e' p) (envT (t0 p))) (hg : ∀ t, LG X ix (envT t) tg Sa (envX t))
    (hb : ∀ x t kc kb, LB X SR envR kr ⟨T, envT, kb⟩ ⟨T, envT, kc⟩ (envX t x) sts envT (fun kn => fb x t kn kc kb)) (hr : ∀ t, LB X SR envR kr bk ct (envT t) rest envJ (fr t)) (hs : ∀ x, foldedSetIterable iter X.env x = pure x := by intro _; rfl) :
    LB X SR envR kr bk ct env (.For tg iter sts [] pos :: rest) envJ (fun kn => f fun xs p => forO xs (t0 p) (fun x t kc => fb x t kc kc fun t' => fr t' kn) fun t' => fr t' kn) :=
  fun C F H σs es σ kn ω D hK hl h hk qn qb qc qr => tSs.of X (pss_cons (ps_for hp hc (piC X) (pgC X) (pssC X) hs) (pssC X)) (hi C F H σs es σ _ ω _ hK hl h hk fun xs p Jt F' H' σx ex hk' h' hy => by
    have out : ∀ t F2 H2 σ2, fr t kn = some ω → ER C F2 H2 (σx ++ (σs ++ σ2)) (ex ++ (es ++ envT t)) → tSs X rest D σ2 H2 := fun t F2 H2 σ2 hk2 h2 =>
      hr t C F2 H2 σs es σ2 kn ω D hK hl (h2.popN hy.len) hk2 qn qb qc qr
    refine ⟨fun i m σ2 H2 => m = xs.length - i ∧ i ≤ xs.length ∧ ∃ t F2, ER C F2 H2 (σx ++ (σs ++ σ2)) (ex ++ (es ++ envT t)) ∧ forO (xs.drop i) t (fun x t kc => fb x t kc kc fun t' => fr t' kn) (fun t' => fr t' kn) = some ω,
      ⟨xs.length, by simp, Nat.zero_le _, t0 p, F', h'.sub (((h0 p).pre es).pre ex), by simpa using hk'⟩, ?_⟩
    rintro i m σ2 H2 ⟨rfl, hi, t, F2, h2, hk2⟩
    obtain ⟨y1, y2⟩ := hy.go i F2 H2 [] (σs ++ σ2) [] (es ++ envT t) rfl h2
    by_cases hlt : i < xs.length
    · have ex1 : xs[i]? = some xs[i] := List.getElem?_eq_getElem hlt
      obtain ⟨g1, g2⟩ := y1 _ ex1
      have ed : xs.drop i = xs[i] :: xs.drop (i + 1) := List.drop_eq_getElem_cons hlt
      rw [ed] at hk2
      refine .inr ⟨g1, fun σ3 H3 => ∃ t F3, ER C F3 H3 (σx ++ (σs ++ σ3)) (ex ++ (es ++ envT t)) ∧ forO (xs.drop (i + 1)) t (fun x t kc => fb x t kc kc fun t' => fr t' kn) (fun t' => fr t' kn) = some ω,
        fun σ3 H3 ⟨t3, F3, h3, hk3⟩ => ⟨xs.length - (i + 1), by omega, rfl, hlt, t3, F3, h3, hk3⟩, fun v H3 hv => ?_⟩
      obtain ⟨F3, h3⟩ := g2 v H3 hv
      refine hg t C F3 H3 (σx ++ σs) (ex ++ es) σ2 v xs[i] _ hK (by simp [hl, hy.len]) (by simpa [List.append_assoc] using h3) fun σ4 _ h4 => ?_
      refine hb xs[i] t (fun s' => forO (xs.drop (i + 1)) s' (fun x t kc => fb x t kc kc fun t' => fr t' kn) fun t' => fr t' kn) (fun t' => fr t' kn) C F3 H3 (σx ++ σs) (ex ++ es) σ4 _ ω _ hK (by simp [hl, hy.len]) h4 hk2 ?_ ?_ ?_ ?_
      · intro t5 F5 H5 σ5 hk5 h5; exact ⟨t5, F5, by simpa [List.append_assoc] using h5, hk5⟩
      · intro t5 F5 H5 σ5 hk5 h5; exact out t5 F5 H5 σ5 hk5 (by simpa [List.append_assoc] using h5)
      · intro t5 F5 H5 σ5 hk5 h5; exact ⟨t5, F5, by simpa [List.append_assoc] using h5, hk5⟩
      · intro a5 i5 v5 F5 H5 σ5 hk5 h5
        refine qr a5 i5 v5 F5 H5 σ5 hk5 ?_
        have h6 : ER C F5 H5 (σx ++ (some v5 :: (σs ++ σ5))) (ex ++ (.st none R SR a5 :: (es ++ envR i5))) := by
          have z : ER C F5 H5 ([some v5] ++ (σx ++ (σs ++ σ5))) ([.st none R SR a5] ++ (ex ++ (es ++ envR i5))) := by simpa [List.append_assoc] using h5
          exact ER.unrot z hy.len
        exact h6.popN hy.len
    · have e : i = xs.length := by omega
      subst e
      refine .inl ⟨y2 (by simp), out t F2 H2 σ2 ?_ h2⟩
      simpa [forO] using hk2)
end
end Z

set_option Elab.async false
set_option linter.all false
set_option maxRecDepth 100000
namespace Z
open PySem PySem.Spec PyProof.Rows L2

/-! ### and, or, if-else -/
section
variable (X : Cx) {Ω : Type}
def tW (e : Expr) : TT := fun σ H Q => ∀ whole pins s, Inv X pins σ H s → wpAny (model X.prog X.w) X.A (isTrue e X.env whole) (TP X pins σ Q) X.xe s
theorem pwC {e : Expr} : PW X e (tW X e) := ⟨fun whole pins s σ H Q I h => h whole pins s I⟩
theorem tW.of {e : Expr} {t : TT} {σ : L2.St} {H : Hp} {Q : Bool → Hp → Prop} (h : PW X e t) (q : t σ H Q) : tW X e σ H Q := fun whole pins s I => h.run whole pins s σ H Q I q
def LW (env : Env) (e : Expr) {P : Type} (env' : P → Env) (f : (Bool → P → Option Ω) → Option Ω) : Prop :=
  ∀ (C : Ck) (F H : Hp) (σs : List (Option V)) (es : Env) (σ : List (Option V)) (k : Bool → P → Option Ω) (ω : Ω) (Q : Bool → Hp → Prop), C.K = X.K → σs.length = es.length → ER C F H (σs ++ σ) (es ++ env) → f k = some ω →
    (∀ a p F' H', k a p = some ω → ER C F' H' (σs ++ σ) (es ++ env' p) → Q a H') → tW X e σ H Q
end
section
variable {X : Cx} {Ω : Type} {env : Env} {nm : Str} {pos : Pos} {a b c e : Expr} {xs rest : List Expr} {P P1 P2 P3 A : Type} {τ τ1 τ2 α β : Type} {S : Stor τ} {S1 : Stor τ1} {S2 : Stor τ2} {E : Enc τ} {E1 : Enc τ1} {E2 : Enc τ2}
  {G : Env → Prop} {e' : P → Env} {e1 : P1 → Env} {e2 : P1 → P2 → Env} {e3 : P1 → P3 → Env}
theorem lt_w {f : (Bool → P → Option Ω) → Option Ω} (h : LW X env e e' f) : LT X env e e' f :=
  fun C F H σs es σ k ω Q hK hl hr hk q => tT.of X (pwC X).pt (h C F H σs es σ k ω Q hK hl hr hk q)
theorem lw_and1 {f : (Bool → P → Option Ω) → Option Ω} (h : LT X env a e' f) : LW X env (.BoolOp .And [a] pos) e' f :=
  fun C F H σs es σ k ω Q hK hl hr hk q => tW.of X (pw_and1 (ptC X)) (h C F H σs es σ k ω Q hK hl hr hk q)
theorem lw_or1 {f : (Bool → P → Option Ω) → Option Ω} (h : LT X env a e' f) : LW X env (.BoolOp .Or [a] pos) e' f :=
  fun C F H σs es σ k ω Q hK hl hr hk q => tW.of X (pw_or1 (ptC X)) (h C F H σs es σ k ω Q hK hl hr hk q)
theorem lw_and {fa : (Bool → P1 → Option Ω) → Option Ω} {fb : P1 → (Bool → P2 → Option Ω) → Option Ω} (ha : LT X env a e1 fa) (hb : ∀ p1, LW X (e1 p1) (.BoolOp .And (b :: rest) pos) (e2 p1) (fb p1)) (hs : ∀ p1 p2, Sub (e2 p1 p2) (e1 p1)) :
    LW X env (.BoolOp .And (a :: b :: rest) pos) e1 (fun k => fa fun x p1 => if x = true then fb p1 fun y _ => k y p1 else k false p1) :=
  fun C F H σs es σ k ω Q hK hl hr hk q => tW.of X (pw_and (ptC X) (pwC X)) (ha C F H σs es σ _ ω _ hK hl hr hk fun x p1 F' H' hk' h' => by
    cases x with
    | true => rw [if_pos rfl] at hk' ⊢; exact hb p1 C F' H' σs es σ _ ω Q hK hl h' hk' fun y p2 F2 H2 hk2 h2 => q y p1 F2 H2 hk2 (h2.subF (hs p1 p2))
    | false => rw [if_neg Bool.false_ne_true] at hk' ⊢; exact q false p1 F' H' hk' h')
theorem lw_or {fa : (Bool → P1 → Option Ω) → Option Ω} {fb : P1 → (Bool → P2 → Option Ω) → Option Ω} (ha : LT X env a e1 fa) (hb : ∀ p1, LW X (e1 p1) (.BoolOp .Or (b :: rest) pos) (e2 p1) (fb p1)) (hs : ∀ p1 p2, Sub (e2 p1 p2) (e1 p1)) :
    LW X env (.BoolOp .Or (a :: b :: rest) pos) e1 (fun k => fa fun x p1 => if x = true then k true p1 else fb p1 fun y _ => k y p1) :=
  fun C F H σs es σ k ω Q hK hl hr hk q => tW.of X (pw_or (ptC X) (pwC X)) (ha C F H σs es σ _ ω _ hK hl hr hk fun x p1 F' H' hk' h' => by
    cases x with
    | true => rw [if_pos rfl] at hk' ⊢; exact q true p1 F' H' hk' h'
    | false => rw [if_neg Bool.false_ne_true] at hk' ⊢; exact hb p1 C F' H' σs es σ _ ω Q hK hl h' hk' fun y p2 F2 H2 hk2 h2 => q y p1 F2 H2 hk2 (h2.subF (hs p1 p2)))
/-- as values -/
theorem lx_one {op : BoolOp} {f : (Bool → P → Option Ω) → Option Ω} (h : LX X env a (it eB) e' f) : LX X env (.BoolOp op [a] pos) (it eB) e' f :=
  fun C F H σs es σ k ω Q hK hl hr hk q => tE.of X (pe_one (peC X)) (h C F H σs es σ k ω Q hK hl hr hk q)
theorem ER.topB {C : Ck} {F H : Hp} {v : V} {x : Bool} {σ : List (Option V)} {env : Env} (h : ER C F H (some v :: σ) (.st none Bool (it eB) x :: env)) : v = .bl x := by
  obtain ⟨v', fp, e1, r⟩ := h.look (i := 0) rfl
  simp at e1; subst e1
  obtain ⟨_, r⟩ := r
  cases r; rfl
theorem lx_and {fa : (Bool → P1 → Option Ω) → Option Ω} {fb : P1 → (Bool → P2 → Option Ω) → Option Ω} (ha : LX X env a (it eB) e1 fa) (hb : ∀ p1, LX X (e1 p1) (.BoolOp .And (b :: rest) pos) (it eB) (e2 p1) (fb p1)) (hs : ∀ p1 p2, Sub (e2 p1 p2) (e1 p1)) :
    LX X env (.BoolOp .And (a :: b :: rest) pos) (it eB) e1 (fun k => fa fun x p1 => if x = true then fb p1 fun y _ => k y p1 else k false p1) :=
  fun C F H σs es σ k ω Q hK hl hr hk q => tE.of X (pe_and (peC X) (peC X)) (ha C F H σs es σ _ ω _ hK hl hr hk fun x p1 v F' H' hk' h' => by
    refine ⟨x, h'.topB, ?_⟩
    cases x with
    | true => rw [if_pos rfl] at hk' ⊢; exact hb p1 C F' H' σs es σ _ ω Q hK hl h'.pop hk' fun y p2 u F2 H2 hk2 h2 => q y p1 u F2 H2 hk2 (ER.sub h2 (.keep ((hs p1 p2).pre es)))
    | false => rw [if_neg Bool.false_ne_true] at hk' ⊢; exact q false p1 _ F' H' hk' (h'.pop.pushSh (.bl _)))
theorem lx_or {fa : (Bool → P1 → Option Ω) → Option Ω} {fb : P1 → (Bool → P2 → Option Ω) → Option Ω} (ha : LX X env a (it eB) e1 fa) (hb : ∀ p1, LX X (e1 p1) (.BoolOp .Or (b :: rest) pos) (it eB) (e2 p1) (fb p1)) (hs : ∀ p1 p2, Sub (e2 p1 p2) (e1 p1)) :
    LX X env (.BoolOp .Or (a :: b :: rest) pos) (it eB) e1 (fun k => fa fun x p1 => if x = true then k true p1 else fb p1 fun y _ => k y p1) :=
  fun C F H σs es σ k ω Q hK hl hr hk q => tE.of X (pe_or (peC X) (peC X)) (ha C F H σs es σ _ ω _ hK hl hr hk fun x p1 v F' H' hk' h' => by
    refine ⟨x, h'.topB, ?_⟩
    cases x with
    | true => rw [if_pos rfl] at hk' ⊢; exact q true p1 _ F' H' hk' (h'.pop.pushSh (.bl _))
    | false => rw [if_neg Bool.false_ne_true] at hk' ⊢; exact hb p1 C F' H' σs es σ _ ω Q hK hl h'.pop hk' fun y p2 u F2 H2 hk2 h2 => q y p1 u F2 H2 hk2 (ER.sub h2 (.keep ((hs p1 p2).pre es))))
theorem lx_not {f : (Bool → P → Option Ω) → Option Ω} (h : LX X env a (it eB) e' f) : LX X env (.UnaryOp .Not a pos) (it eB) e' (fun k => f fun x p => k (!x) p) :=
  fun C F H σs es σ k ω Q hK hl hr hk q => tE.of X (pe_not (peC X)) (h C F H σs es σ _ ω _ hK hl hr hk fun x p v F' H' hk' h' => ⟨x, h'.topB, q _ p _ F' H' hk' (h'.pop.pushSh (.bl _))⟩)
theorem lx_if {fc : (Bool → P1 → Option Ω) → Option Ω} {fa : P1 → (τ → P2 → Option Ω) → Option Ω} {fb : P1 → (τ → P3 → Option Ω) → Option Ω} (hc : LT X env c e1 fc) (ha : ∀ p1, LX X (e1 p1) a S (e2 p1) (fa p1)) (hb : ∀ p1, LX X (e1 p1) b S (e3 p1) (fb p1))
    (hs : ∀ p1 p2, Sub (e2 p1 p2) (e1 p1)) (hs3 : ∀ p1 p3, Sub (e3 p1 p3) (e1 p1)) :
    LX X env (.IfExp c a b pos) S e1 (fun k => fc fun x p1 => if x = true then fa p1 fun y _ => k y p1 else fb p1 fun y _ => k y p1) :=
  fun C F H σs es σ k ω Q hK hl hr hk q => tE.of X (pe_ifExp (ptC X) (peC X) (peC X)) (hc C F H σs es σ _ ω _ hK hl hr hk fun x p1 F' H' hk' h' => by
    cases x with
    | true => rw [if_pos rfl] at hk' ⊢; exact ha p1 C F' H' σs es σ _ ω Q hK hl h' hk' fun y p2 u F2 H2 hk2 h2 => q y p1 u F2 H2 hk2 (ER.sub h2 (.keep ((hs p1 p2).pre es)))
    | false => rw [if_neg Bool.false_ne_true] at hk' ⊢; exact hb p1 C F' H' σs es σ _ ω Q hK hl h' hk' fun y p2 u F2 H2 hk2 h2 => q y p1 u F2 H2 hk2 (ER.sub h2 (.keep ((hs3 p1 p2).pre es))))
end

/-! ### while; stores into own lists -/
section
variable {C : Ck} {F F' H H' : Hp} {σ : List (Option V)} {env : Env} {o : Option V} {τ τ0 : Type} {S : Stor τ} {S0 : Stor τ0} {x : τ} {y : τ0} {v : V} {w : Option V} {i : Nat}
/-- the stack's top goes into the objects of slot i -/
theorem ER.absorb (h : ER C F H (o :: σ) (.st none τ0 S0 y :: env)) (e : env[i]? = some (.st w τ S x)) : ∃ v fp v0 fq, σ[i]? = some (some v) ∧ o = some v0 ∧ S.rel C.K F H fp v x ∧ S0.rel C.K F H fq v0 y ∧ (fp ++ fq).Nodup ∧ (∀ a ∈ fp ++ fq, C.B a = none ∧ F a = none ∧ H a ≠ none) ∧
    ∀ (τ' : Type) (S' : Stor τ') (x' : τ') (H' : Hp) (fp' : List Addr), (∀ a, a ∉ fp ++ fq → H a ≠ none → H' a = H a) → (∀ a, H a ≠ none → H' a ≠ none) → S'.rel C.K F H' fp' v x' → fp'.Nodup → (∀ a ∈ fp', H' a ≠ none ∧ (a ∈ fp ++ fq ∨ H a = none)) → ER C F H' σ (env.set i (.st w τ' S' x')) := by
  obtain ⟨fp, q⟩ := h.sl
  obtain ⟨hi, _⟩ := List.getElem?_eq_some_iff.mp e
  obtain ⟨v, e1, r, k⟩ := q.ok (i + 1) _ (by simpa using e)
  obtain ⟨v0, e0, r0, k0⟩ := q.ok 0 _ rfl
  have e1' : σ[i]? = some (some v) := by
    simp at e1
    cases z : σ[i]? with
    | none => rw [z] at e1; cases e1
    | some o => rw [z] at e1; exact congrArg some e1
  have e0' : o = some v0 := by simpa using e0
  have hi1 : i + 1 < (Slot.st none τ0 S0 y :: env).length := by simpa using hi
  have h00 : 0 < (Slot.st none τ0 S0 y :: env).length := by simp
  have ownu : ∀ a ∈ fp (i + 1) ++ fp 0, C.B a = none ∧ F a = none ∧ H a ≠ none := fun a m => by
    rcases List.mem_append.mp m with m | m
    · exact q.own (i + 1) hi1 a m
    · exact q.own 0 h00 a m
  have ndu : (fp (i + 1) ++ fp 0).Nodup := by
    rw [List.nodup_append]
    refine ⟨q.nd (i + 1) hi1, q.nd 0 h00, fun a ha b hb z => ?_⟩
    subst z
    have := q.sep (i + 1) 0 hi1 h00 a ha hb
    omega
  refine ⟨v, fp (i + 1), v0, fp 0, e1', e0', r, r0, ndu, ownu, fun τ' S' x' H' fp' hk hs r' nd' sub => ?_⟩
  have hp := h.pop
  have bne : ∀ a, C.B a ≠ none → a ∉ fp (i + 1) ++ fp 0 := fun a m z => m (ownu a z).1
  have notu : ∀ j, j < env.length → j ≠ i → ∀ a ∈ fp (j + 1), a ∉ fp (i + 1) ++ fp 0 := fun j hj ne a ha z => by
    have hj1 : j + 1 < (Slot.st none τ0 S0 y :: env).length := by simpa using hj
    rcases List.mem_append.mp z with z | z
    · have := q.sep (j + 1) (i + 1) hj1 hi1 a ha z; omega
    · have := q.sep (j + 1) 0 hj1 h00 a ha z; omega
  refine ⟨fun a o m => ?_, fun a o m => ?_, h.gr, fun a m => hs a (h.up a m), by simp [hp.len], fun j => if j = i then fp' else fp (j + 1), fun j s' ej => ?_, fun j hj a ha => ?_, fun j l hj hl a ha hb => ?_, fun j hj => ?_⟩
  · have m' : C.B a ≠ none := by rw [m]; exact fun z => by cases z
    rw [hk a (bne a m') (same_some h.sB m')]; exact h.sB a o m
  · have m' : F a ≠ none := by rw [m]; exact fun z => by cases z
    rw [hk a (fun z => m' (ownu a z).2.1) (same_some h.sF m')]; exact h.sF a o m
  · by_cases z : j = i
    · subst z
      rw [List.getElem?_set_self hi] at ej
      cases ej
      refine ⟨v, by rw [e1']; rfl, ?_, ?_⟩
      · simpa using r'
      · simp only [if_pos]
        cases w with
        | none =>
          intro a ha
          rcases (sub a ha).2 with m | m
          · rcases List.mem_append.mp m with m | m
            · exact k a m
            · exact k0 a m
          · exact h.hnone m
        | some w0 =>
          refine ⟨k.1, fun a ha => ?_⟩
          rcases (sub a ha).2 with m | m
          · rcases List.mem_append.mp m with m | m
            · exact k.2 a m
            · exact .inl (k0 a m)
          · exact .inl (h.hnone m)
    · rw [List.getElem?_set_ne (fun y => z y.symm)] at ej
      have hj : j < env.length := (List.getElem?_eq_some_iff.mp ej).1
      simp only [if_neg z]
      have := q.ok (j + 1) s' (by simpa using ej)
      simp only [List.getElem?_cons_succ] at this
      refine this.go (fun _ _ y => y) (fun a m => hk a (bne a m) (same_some h.sB m)) fun a ha => ?_
      exact hk a (notu j hj z a ha) (q.own (j + 1) (by simpa using hj) a ha).2.2
  · have hj' : j < env.length := by simpa using hj
    by_cases z : j = i
    · subst z
      simp only [if_pos] at ha
      obtain ⟨m1, m⟩ := sub a ha
      rcases m with m | m
      · exact ⟨(ownu a m).1, (ownu a m).2.1, m1⟩
      · exact ⟨h.bnone m, h.fnone m, m1⟩
    · simp only [if_neg z] at ha
      obtain ⟨b, f, c⟩ := q.own (j + 1) (by simpa using hj') a ha
      exact ⟨b, f, hs a c⟩
  · have hj' : j < env.length := by simpa using hj
    have hl' : l < env.length := by simpa using hl
    by_cases zj : j = i
    · by_cases zl : l = i
      · rw [zj, zl]
      · simp only [if_pos zj] at ha
        simp only [if_neg zl] at hb
        rcases (sub a ha).2 with m | m
        · exact absurd m (notu l hl' zl a hb)
        · exact absurd m (q.own (l + 1) (by simpa using hl') a hb).2.2
    · simp only [if_neg zj] at ha
      by_cases zl : l = i
      · simp only [if_pos zl] at hb
        rcases (sub a hb).2 with m | m
        · exact absurd m (notu j hj' zj a ha)
        · exact absurd m (q.own (j + 1) (by simpa using hj') a ha).2.2
      · simp only [if_neg zl] at hb
        have := q.sep (j + 1) (l + 1) (by simpa using hj') (by simpa using hl') a ha hb
        omega
  · have hj' : j < env.length := by simpa using hj
    by_cases z : j = i
    · simp only [if_pos z]; exact nd'
    · simp only [if_neg z]; exact q.nd (j + 1) (by simpa using hj')
theorem RelAll.app {α : Type} {R : List Addr → V → α → Prop} : ∀ {fp : List Addr} {vs : List V} {xs : List α} {fq : List Addr} {v : V} {x : α}, RelAll R fp vs xs → R fq v x → RelAll R (fp ++ fq) (vs ++ [v]) (xs ++ [x])
  | _, _, _, fq, v, x, .nil, h => by simpa using RelAll.cons h .nil
  | _, _, _, fq, v, x, .cons h r, q => by
    rw [List.append_assoc]
    exact .cons h (r.app q)
theorem RelAll.length {α : Type} {R : List Addr → V → α → Prop} : ∀ {fp : List Addr} {vs : List V} {xs : List α}, RelAll R fp vs xs → vs.length = xs.length
  | _, _, _, .nil => rfl
  | _, _, _, .cons _ r => congrArg (· + 1) r.length
end
def SZ : Nat := 16777216
theorem SZ_eq : sizeLine = SZ := sizeLine_eq
section
variable {X : Cx} {R I Ω : Type} {SR : Stor R} {envR : I → Env} {kr : R → I → Option Ω} {bk ct : Lp Ω} {env : Env} {nm : Str} {pos : Pos} {c e tg iter : Expr} {sts sa sb rest : List Stmt} {P P1 P2 A : Type} {τ α : Type} {S : Stor τ} {Sa : Stor α} {e' : P → Env} {ix : List Nat} {J J1 : Type} {envJ : J → Env} {env1 : J1 → Env}
/-- a while, with fuel n -/
theorem lb_while {T Pt : Type} {envT : T → Env} {eT : T → Pt → Env} {fc : T → (Bool → Pt → Option Ω) → Option Ω} {fb : T → Pt → (T → Option Ω) → (T → Option Ω) → (T → Option Ω) → Option Ω} {fr : T → (J → Option Ω) → Option Ω} (n : Nat)
    (hp : PassesOwn (model X.prog X.w) X.A X.env X.xe) (t0 : T) (h0 : Sub env (envT t0)) (hc : ∀ t, LT X (envT t) c (eT t) (fc t)) (hx : ∀ t p, Sub (eT t p) (envT t))
    (hb : ∀ t p kc kb, LB X SR envR kr ⟨T, envT, kb⟩ ⟨T, envT, kc⟩ (eT t p) sts envT (fun kn => fb t p kn kc kb)) (hr : ∀ t, LB X SR envR kr bk ct (envT t) rest envJ (fr t)) :
    LB X SR envR kr bk ct env (.While c sts [] pos :: rest) envJ (fun kn => whileO n t0 fun t kc => fc t fun b p => if b = true then fb t p kc kc fun t' => fr t' kn else fr t kn) :=
  fun C F H σs es σ kn ω D hK hl h hk qn qb qc qr => tSs.of X (pss_cons (ps_while hp (ptC X) (pssC X)) (pssC X)) (by
    have out : ∀ t F2 H2 σ2, fr t kn = some ω → ER C F2 H2 (σs ++ σ2) (es ++ envT t) → tSs X rest D σ2 H2 := fun t F2 H2 σ2 hk2 h2 =>
      hr t C F2 H2 σs es σ2 kn ω D hK hl h2 hk2 qn qb qc qr
    refine ⟨fun m σ2 H2 => ∃ t F2, ER C F2 H2 (σs ++ σ2) (es ++ envT t) ∧ whileO m t (fun t kc => fc t fun b p => if b = true then fb t p kc kc fun t' => fr t' kn else fr t kn) = some ω, ⟨n, t0, F, h.subF h0, hk⟩, ?_⟩
    rintro m σ2 H2 ⟨t, F2, h2, hk2⟩
    cases m with
    | zero => cases hk2
    | succ m =>
      refine hc t C F2 H2 σs es σ2 _ ω _ hK hl h2 hk2 fun b p F3 H3 hk3 h3 => ?_
      cases b with
      | true =>
        rw [if_pos rfl] at hk3 ⊢
        refine ⟨fun σ4 H4 => ∃ t F4, ER C F4 H4 (σs ++ σ4) (es ++ envT t) ∧ whileO m t (fun t kc => fc t fun b p => if b = true then fb t p kc kc fun t' => fr t' kn else fr t kn) = some ω, fun σ4 H4 ⟨t4, F4, h4, hk4⟩ => ⟨m, Nat.lt_succ_self m, t4, F4, h4, hk4⟩, ?_⟩
        refine hb t p (fun s' => whileO m s' fun t kc => fc t fun b p => if b = true then fb t p kc kc fun t' => fr t' kn else fr t kn) (fun t' => fr t' kn) C F3 H3 σs es σ2 _ ω _ hK hl h3 hk3 ?_ ?_ ?_ ?_
        · intro t5 F5 H5 σ5 hk5 h5; exact ⟨t5, F5, h5, hk5⟩
        · intro t5 F5 H5 σ5 hk5 h5; exact out t5 F5 H5 σ5 hk5 h5
        · intro t5 F5 H5 σ5 hk5 h5; exact ⟨t5, F5, h5, hk5⟩
        · intro a5 i5 v5 F5 H5 σ5 hk5 h5; exact qr a5 i5 v5 F5 H5 σ5 hk5 h5
      | false =>
        rw [if_neg Bool.false_ne_true] at hk3 ⊢
        exact out t F3 H3 σ2 hk3 (h3.subF (hx t p)))
/-- x.append(e), x a list of one's own -/
theorem lb_app {f : (α → P → Option Ω) → Option Ω} {fr : α → P → (J → Option Ω) → Option Ω} {w : Option V} {x0 : List α} {xs : P → List α} {ap cp np : Pos} (i : Nat) (h0 : env[i]? = some (.st w (List α) (ls Sa) x0))
    (he : LX X env e Sa e' f) (h1 : ∀ p, (e' p)[i]? = some (.st w (List α) (ls Sa) (xs p))) (hr : ∀ y p, LB X SR envR kr bk ct ((e' p).set i (.st w (List α) (ls Sa) (xs p ++ [y]))) rest envJ (fr y p))
    (hN : X.N[i]? = some nm := by rfl) (hv : Vis X.env.scope nm := by first | exact Or.inl rfl | exact Or.inr (Or.inl rfl) | exact Or.inr (Or.inr rfl))
    (hd : (nm == ("__debug__" : Str)) = false := by decide) (hcd : (nm == ("__classdict__" : Str)) = false := by decide)
    (hbase : attributeBase (.Name nm np) "append" X.env (eval (.Name nm np) X.env) = eval (.Name nm np) X.env := by rfl)
    (hfew : ((backTo cp (starEach [e] X.env)).all (fun x => !x.1) && (backToKw cp (keywordEach [] X.env)).all (fun x => x.1.isSome) && decide ([e].length + ([] : List Keyword).length + (if ([] : List Keyword).isEmpty then 0 else 1) < 30)) = true := by rfl)
    (hline : (ap.endLine == cp.line) = true := by rfl) (hse : starEach [e] X.env = (false, eval e X.env) :: starEach [] X.env := by rfl) (hplain : (backTo cp (starEach [] X.env)).any (·.1) = false := by rfl)
    (hsw : swapsWith (.Call (.Attribute (.Name nm np) "append" ap) [e] [] cp) none pos.line X.env = pure false := by rfl) :
    LB X SR envR kr bk ct env (.Expr (.Call (.Attribute (.Name nm np) "append" ap) [e] [] cp) pos :: rest) envJ (fun kn => f fun y p => ck (decide ((xs p).length < SZ)) (fr y p kn)) :=
  fun C F H σs es σ kn ω D hK hl h hk qn qb qc qr => tSs.of X (pss_cons (ps_expr (pe_bm PySem.F.plainAttrs_list PySem.F.slot_list_append PySem.F.type_list_append mt_append (pe_var hN hv hd hcd) (pa_cons (peC X) pa_nil hse) hbase hfew hline hse hplain) hsw) (pssC X)) (by
    obtain ⟨l, fp, e1, r⟩ := h.lookF hl h0
    obtain ⟨q0, vs0, fps0, rfl, hq0, _, _⟩ := r
    refine ⟨_, e1, .inl ⟨rfl, vs0, SqL.of hq0⟩, he C F H σs es σ _ ω _ hK hl h hk fun y p v F' H' hk' h' => ?_⟩
    obtain ⟨hc, hk'⟩ := ck_some hk'
    obtain ⟨v', fp', v0, fq, e2, e3, r1, r2, nd, ow, fin⟩ := h'.absorb (i := es.length + i) (by rw [at_app _ rfl]; exact h1 p)
    rw [at_app _ hl, e1] at e2
    cases e2; cases e3
    obtain ⟨q1, vs, fps, e4, hq, ra, rfl⟩ := r1
    cases e4
    have hlen := ra.length
    have hc' := of_decide_eq_true hc
    refine ⟨_, vs, _, rfl, rfl, hq, by rw [SZ_eq]; omega, ?_⟩
    have fin' := fin (List α) (ls Sa) (xs p ++ [y]) (upd H' q0 (.lst (vs ++ [v]))) (q0 :: (fps ++ fq)) (fun a na _ => upd_ne fun z => na (by rw [z]; simp)) (fun a m => ?_) ?_ (by simpa using nd) (fun a m => ?_)
    · rw [List.set_append_right _ _ (Nat.le_add_right _ _), Nat.add_sub_cancel_left] at fin'
      exact hr y p C F' _ σs es σ kn ω D hK hl fin' hk' qn qb qc qr
    · by_cases z : a = q0
      · subst z; rw [upd_same]; exact fun z => by cases z
      · rw [upd_ne z]; exact m
    · have nm : q0 ∉ fps ++ fq := by
        have : (q0 :: (fps ++ fq)).Nodup := by simpa using nd
        exact (List.nodup_cons.mp this).1
      refine ⟨q0, vs ++ [v], fps ++ fq, rfl, upd_same, RelAll.imp (fun fr' v' x' s q => Sa.frame (fun a m => upd_ne fun z => nm (z ▸ s a m)) q) (ra.app r2), rfl⟩
    · refine ⟨?_, .inl (by simpa using m)⟩
      by_cases z : a = q0
      · subst z; rw [upd_same]; exact fun z => by cases z
      · rw [upd_ne z]; exact (ow a (by simpa using m)).2.2)
/-- x[j] = e, x a list of one's own whose items are shared -/
theorem lb_setix {E : Enc α} {f : (α → P1 → Option Ω) → Option Ω} {f2 : α → P1 → (Int → P2 → Option Ω) → Option Ω} {fr : α → P1 → Int → P2 → List α → (J → Option Ω) → Option Ω} {e1 : P1 → Env} {e2 : α → P1 → P2 → Env} {w : Option V} {x1 : P1 → List α} {xs : α → P1 → P2 → List α} {ie : Expr} {np sp : Pos} (i : Nat)
    (he : LX X env e (it E) e1 f) (h1 : ∀ p, (e1 p)[i]? = some (.st w (List α) (ls (it E)) (x1 p))) (hi : ∀ y p, LX X (e1 p) ie (it eI) (e2 y p) (f2 y p)) (h2 : ∀ y p p2, (e2 y p p2)[i]? = some (.st w (List α) (ls (it E)) (xs y p p2)))
    (hr : ∀ y p j p2 zs, LB X SR envR kr bk ct ((e2 y p p2).set i (.st w (List α) (ls (it E)) zs)) rest envJ (fr y p j p2 zs))
    (hN : X.N[i]? = some nm := by rfl) (hv : Vis X.env.scope nm := by first | exact Or.inl rfl | exact Or.inr (Or.inl rfl) | exact Or.inr (Or.inr rfl))
    (hd : (nm == ("__debug__" : Str)) = false := by decide) (hcd : (nm == ("__classdict__" : Str)) = false := by decide)
    (ha : ∀ v, assign (.Subscript (.Name nm np) ie sp) X.env v = (do
      let ov ← holding [v] (eval (.Name nm np) X.env)
      let iv ← holding [v, ov] (eval ie X.env)
      standAt sp
      holding [v, ov, iv] (setItem ov iv v)
      release [v, ov, iv] []) := by intro _; rfl)
    (hs : swapsWithSole [.Subscript (.Name nm np) ie sp] e pos.line X.env = pure false := by rfl) (hw : swappedStores [.Subscript (.Name nm np) ie sp] e X.env = pure none := by rfl) (ha1 : (assignEach [.Subscript (.Name nm np) ie sp] X.env).map (·.2) = [assign (.Subscript (.Name nm np) ie sp) X.env] := by rfl) :
    LB X SR envR kr bk ct env (.Assign [.Subscript (.Name nm np) ie sp] e pos :: rest) envJ (fun kn => f fun y p => f2 y p fun j p2 => (ixN (xs y p p2).length j).bind fun n => fr y p j p2 ((xs y p p2).set n y) kn) :=
  fun C F H σs es σ kn ω D hK hl h hk qn qb qc qr => tSs.of X (pss_cons (ps_asg (peC X) (pg_sub (pe_var hN hv hd hcd) (peC X) set_list ha) hs hw ha1) (pssC X)) (he C F H σs es σ _ ω _ hK hl h hk fun y p v F' H' hk' h' => by
    obtain ⟨l, fp, e3, r⟩ := h'.pop.lookF hl (h1 p)
    refine ⟨l, e3, hi y p C F' H' (some v :: σs) (.st none α (it E) y :: es) σ _ ω _ hK (by simp [hl]) h' hk' fun j p2 u F2 H2 hk2 h3 => ?_⟩
    obtain ⟨n, hn, hk2⟩ := bind_some hk2
    have hu : u = .int j := by
      obtain ⟨v', fp, e1, r⟩ := h3.look (i := 0) rfl
      simp at e1; subst e1
      obtain ⟨_, r⟩ := r
      cases r; rfl
    subst hu
    have hv' : Rep C.K F2 v (E.enc y) := by
      obtain ⟨v', fp, e1, r⟩ := h3.look (i := 1) rfl
      simp at e1; subst e1
      exact r.2
    have h4 : ER C F2 H2 (σs ++ σ) (es ++ e2 y p p2) := h3.pop.pop
    obtain ⟨l', fp', e4, r1, nd, ow, fin⟩ := h4.mut (i := es.length + i) (by rw [at_app _ rfl]; exact h2 y p p2)
    rw [at_app _ hl, e3] at e4
    cases e4
    obtain ⟨q1, vs, fps, rfl, hq, ra, rfl⟩ := r1
    obtain ⟨rfl, rp⟩ := ra.zero
    have hlen : vs.length = (xs y p p2).length := by have := rp.length; simpa using this
    refine ⟨q1, vs, j, n, rfl, rfl, hq, by rw [hlen]; exact hn, ?_⟩
    have fin' := fin (List α) (ls (it E)) ((xs y p p2).set n y) (upd H2 q1 (.lst (vs.set n v))) [q1] (fun a na _ => upd_ne fun z => na (by rw [z]; simp)) (fun a m => ?_) ⟨q1, vs.set n v, [], rfl, upd_same, ?_, rfl⟩ (by simp) (fun a m => ?_)
    · rw [List.set_append_right _ _ (Nat.le_add_right _ _), Nat.add_sub_cancel_left] at fin'
      exact hr y p j p2 _ C F2 _ σs es σ kn ω D hK hl fin' hk2 qn qb qc qr
    · by_cases z : a = q1
      · subst z; rw [upd_same]; exact fun z => by cases z
      · rw [upd_ne z]; exact m
    · have := rp.set hv' (i := n)
      rw [← List.map_set] at this
      exact this.zero
    · simp at m; subst m
      exact ⟨by rw [upd_same]; exact (fun z => by cases z), .inl (by simp)⟩)
end
end Z

set_option Elab.async false
set_option linter.all false
set_option maxRecDepth 100000
namespace Z
open PySem PySem.Spec PyProof.Rows L2

/-! ### calls of defs -/
/-- slots that own nothing -/
inductive ShE : Env → Prop
  | nil : ShE []
  | cons {τ : Type} {S : Stor τ} {x : τ} {en : Env} : Cp S → ShE en → ShE (.st none τ S x :: en)
theorem ShE.slot : ∀ {en : Env}, ShE en → ∀ (i : Nat) (s : Slot), en[i]? = some s → ∃ (τ : Type) (S : Stor τ) (x : τ), s = Slot.st none τ S x ∧ Cp S
  | _, .nil, i, s, e => by simp at e
  | _, .cons cp r, 0, s, e => ⟨_, _, _, by simp at e; exact e.symm, cp⟩
  | _, .cons cp r, i + 1, s, e => r.slot i s (by simpa using e)
section
variable {C : Ck} {F F' H H' : Hp} {σ : List (Option V)} {env : Env} {o : Option V} {τ τ0 R : Type} {S : Stor τ} {S0 : Stor τ0} {SR : Stor R} {x : τ} {y : τ0} {v : V} {w : Option V} {i : Nat} {r : R}
theorem lt_of_get {α : Type _} {l : List α} {i : Nat} {a : α} (h : l[i]? = some a) : i < l.length := (List.getElem?_eq_some_iff.mp h).1
/-- into a def: its arguments are shared -/
theorem ER.enter {σa : List (Option V)} {ea : Env} (h : ER C F H (σa ++ σ) (ea ++ env)) (hl : σa.length = ea.length) (sh : ShE ea) : ER ⟨C.K, H, F, H, []⟩ F H σa ea := by
  obtain ⟨fp, q⟩ := h.sl
  refine ⟨fun _ _ e => e, h.sF, fun a m => .inl m, fun a m => m, hl, fun _ => [], fun j s e => ?_, fun j hj a ha => (nomatch ha), fun j l _ _ a ha => (nomatch ha), fun j _ => List.nodup_nil⟩
  have hj := lt_of_get e
  obtain ⟨τ, S, x, rfl, cp⟩ := sh.slot j s e
  obtain ⟨v, e1, r, _⟩ := q.ok j _ (by rw [List.getElem?_append_left hj]; exact e)
  rw [List.getElem?_append_left (by omega)] at e1
  have z := cp.nil r
  rw [z] at r
  exact ⟨v, e1, r, fun _ m => nomatch m⟩
def hun (F G : Hp) : Hp := fun a => match F a with
  | some o => some o
  | none => G a
theorem same_hunL : Same F (hun F F') := fun a o e => by unfold hun; rw [e]
theorem same_hunR (s : Same F H) (s' : Same F' H) : Same F' (hun F F') := fun a o e => by
  unfold hun
  cases q : F a with
  | none => exact e
  | some u =>
    have h1 := s a u q
    have h2 := s' a o e
    rw [h1] at h2
    exact h2
theorem hun_same (s : Same F H) (s' : Same F' H) : Same (hun F F') H := fun a o e => by
  unfold hun at e
  cases q : F a with
  | none => rw [q] at e; exact s' a o e
  | some u' =>
    rw [q] at e
    have e' : u' = o := Option.some.inj e
    rw [← e']
    exact s a u' q
theorem hun_some {a : Addr} (h : hun F F' a ≠ none) : F a ≠ none ∨ F' a ≠ none := by
  unfold hun at h
  cases q : F a with
  | none => rw [q] at h; exact .inr h
  | some u => exact .inl (by intro z; cases z)
theorem hun_none {a : Addr} (h : F a = none) (h' : F' a = none) : hun F F' a = none := by
  unfold hun; rw [h]; exact h'
/-- out of it -/
theorem ER.back (h : ER C F H σ env) (hc : ER ⟨C.K, H, F, H, []⟩ F' H' [some v] [.st none R SR r]) : ∃ F'', ER C F'' H' (some v :: σ) (.st none R SR r :: env) := by
  have sFH : Same F H' := fun a o e => hc.sB a o (h.sF a o e)
  have nw : ∀ a, hun F F' a ≠ none → F a ≠ none ∨ H a = none := fun a m => by
    rcases hun_some m with z | z
    · exact .inl z
    · exact hc.gr a z
  have h2 := h.grow (F' := hun F F') (H' := H') hc.sB same_hunL (hun_same sFH hc.sF) nw
  obtain ⟨fp, q⟩ := h.sl
  have q2 := q.grow h hc.sB (F' := hun F F') same_hunL nw
  obtain ⟨fq, qc⟩ := hc.sl
  obtain ⟨v', e1, rr, ne⟩ := qc.ok 0 _ rfl
  simp at e1; subst e1
  refine ⟨hun F F', h2.sB, h2.sF, h2.gr, h2.up, by simp [h2.len], _, q2.push (fq := fq 0) ⟨v, rfl, SR.monoF (same_hunR sFH hc.sF) rr, fun a m => h.hnone (ne a m)⟩ (fun a m => ?_) (qc.nd 0 (by simp)) fun j hj a ha m => ?_⟩
  · obtain ⟨b, f, c⟩ := qc.own 0 (by simp) a m
    exact ⟨h.bnone b, hun_none (h.fnone b) f, c⟩
  · exact (q.own j hj a ha).2.2 (ne a m)
/-- the promise of a def over shared arguments -/
def spP (K : Fg) {A R : Type} (sl : A → Env) (SR : Stor R) (m : A → Option R) : Sp := fun vs H Q _ => ∃ (B F : Hp) (a : A) (r : R), m a = some r ∧ (vs.map some).length = (sl a).length ∧ ER ⟨K, B, F, H, []⟩ F H (vs.map some) (sl a) ∧
  ∀ F' H' v, ER ⟨K, B, F, H, []⟩ F' H' [some v] [.st none R SR r] → Q v H'
/-- .. that changes its first argument -/
def spI (K : Fg) {A T R : Type} (ST : Stor T) (sl : A → Env) (SR : Stor R) (m : T → A → Option (R × T)) : Sp := fun vs H Q _ => ∃ (B F : Hp) (io : List Addr) (t : T) (a : A) (r : R) (t' : T) (v0 : V) (vs' : List V), vs = v0 :: vs' ∧ m t a = some (r, t') ∧ (vs'.map some).length = (sl a).length ∧
  ER ⟨K, B, F, H, io⟩ F H (vs.map some) (.st (some v0) T ST t :: sl a) ∧ ∀ F' H' v, ER ⟨K, B, F, H, io⟩ F' H' [some v, some v0] [.st none R SR r, .st (some v0) T ST t'] → Q v H'
theorem ER.head {s : Slot} (h : ER C F H (o :: σ) (s :: env)) : ER C F H [o] [s] :=
  h.perm rfl id fun j s' e => by
    cases j with
    | zero => exact .inr ⟨by simpa using e, rfl, fun l _ el _ z => by simpa using z⟩
    | succ j => simp at e
theorem ER.head2 {o2 : Option V} {s s2 : Slot} (h : ER C F H (o :: o2 :: σ) (s :: s2 :: env)) : ER C F H [o, o2] [s, s2] :=
  h.perm rfl id fun j s' e => by
    match j, e with
    | 0, e => exact .inr ⟨by simpa using e, rfl, fun l _ el _ z => by simpa using z⟩
    | 1, e => exact .inr ⟨by simpa using e, rfl, fun l _ el _ z => by simpa using z⟩
    | j + 2, e => simp at e
theorem ER.padR (h : ER C F H σ env) : ∀ n : Nat, ER C F H (σ ++ List.replicate n none) (env ++ List.replicate n .un) := fun n =>
  h.perm (by simp [h.len]) id fun j s' e => by
    by_cases z : j < env.length
    · rw [List.getElem?_append_left z] at e
      exact .inr ⟨e, by rw [List.getElem?_append_left (by rw [h.len]; exact z)]; rfl, fun l _ _ _ y => y⟩
    · rw [List.getElem?_append_right (by omega), List.getElem?_replicate] at e
      split at e
      · exact .inl (Option.some.inj e).symm
      · cases e
end

section
variable {P : Program} {w : World} {K : Fg} {mg : Str → Option Value} {base : Heap}
/-- THE RULE for a def over shared arguments: its body walked -/
theorem fnP {x qual : Str} {st : Stmt} {f : Addr} {fd : FuncData} {N ps : List Str} {k : Nat} {A R : Type} {sl : A → Env} {SR : Stor R} {m : A → Option R} (F : Fun K x qual st f fd) (S : FnScope N ps (defScope st)) (n : Nat) (hn : N.length - ps.length = n) (hl : ∀ a, (sl a).length = ps.length)
    (hb : ∀ (cdv : Value) (A' : Around) (outer : List PySem.Env) (s : Shared) (H : Hp) (E : XK), Room k (A'.deeper (envOfC qual (defScope st) s.heap.objs.size f cdv)) → ∀ a : A,
      LB (cxOf CX0 P w K mg base N qual (defScope st) f cdv A' outer s H E).nox SR (fun _ : Unit => List.replicate (ps.length + n) .un) (fun (r : R) (_ : Unit) => some r) (noLp R) (noLp R) (sl a ++ List.replicate n .un) (defBody st) (fun z : Empty => z.elim) (fun _ => m a)) :
    FnOk P w K mg base CX0 (k + 1) f fd ps (spP K sl SR m) := by
  have hlen : ∀ vs H Q E, spP K sl SR m vs H Q E → vs.length = ps.length := fun vs H Q E h => by
    obtain ⟨B, F0, a, r, _, h2, _⟩ := h
    rw [List.length_map] at h2; rw [h2, hl a]
  refine F.ok S hlen fun cdv A' outer s H vs Q E hr h => ?_
  have hlv := hlen vs H Q E h
  obtain ⟨B, F0, a, r, hm, _, her, q⟩ := h
  refine ⟨_, pssC _, ?_⟩
  have hst : L2.start N vs = vs.map some ++ List.replicate n none := by unfold L2.start; rw [hlv, hn]
  rw [hst]
  refine hb cdv A' outer s H E hr a ⟨K, B, F0, H, []⟩ F0 H [] [] _ (fun z => z.elim) r { nx := fun _ H' => Q .non H', rt := Q } rfl rfl (her.padR n) hm (fun z => z.elim) (fun z => z.elim) (fun z => z.elim) ?_
  intro a' i v F' H' σ' e h'
  cases e
  exact q F' H' v h'.head
/-- .. that changes its first argument -/
theorem fnI {x qual : Str} {st : Stmt} {f : Addr} {fd : FuncData} {N ps : List Str} {k : Nat} {A T R : Type} {ST : Stor T} {sl : A → Env} {SR : Stor R} {m : T → A → Option (R × T)} (F : Fun K x qual st f fd) (S : FnScope N ps (defScope st)) (n : Nat) (hn : N.length - ps.length = n) (hl : ∀ a, (sl a).length + 1 = ps.length)
    (hb : ∀ (cdv : Value) (A' : Around) (outer : List PySem.Env) (s : Shared) (H : Hp) (E : XK), Room k (A'.deeper (envOfC qual (defScope st) s.heap.objs.size f cdv)) → ∀ (v0 : V) (t : T) (a : A),
      LB (cxOf CX0 P w K mg base N qual (defScope st) f cdv A' outer s H E).nox SR (fun t' : T => .st (some v0) T ST t' :: List.replicate (N.length - 1) .un) (fun (r : R) (t' : T) => some (r, t')) (noLp (R × T)) (noLp (R × T)) (.st (some v0) T ST t :: (sl a ++ List.replicate n .un)) (defBody st) (fun z : Empty => z.elim) (fun _ => m t a)) :
    FnOk P w K mg base CX0 (k + 1) f fd ps (spI K ST sl SR m) := by
  have hlen : ∀ vs H Q E, spI K ST sl SR m vs H Q E → vs.length = ps.length := fun vs H Q E h => by
    obtain ⟨B, F0, io, t, a, r, t', v0, vs', rfl, _, h2, _⟩ := h
    rw [List.length_map] at h2; rw [List.length_cons, h2, hl a]
  refine F.ok S hlen fun cdv A' outer s H vs Q E hr h => ?_
  have hlv := hlen vs H Q E h
  obtain ⟨B, F0, io, t, a, r, t', v0, vs', rfl, hm, _, her, q⟩ := h
  refine ⟨_, pssC _, ?_⟩
  have hst : L2.start N (v0 :: vs') = (v0 :: vs').map some ++ List.replicate n none := by unfold L2.start; rw [hlv, hn]
  rw [hst]
  refine hb cdv A' outer s H E hr v0 t a ⟨K, B, F0, H, io⟩ F0 H [] [] _ (fun z => z.elim) (r, t') { nx := fun _ H' => Q .non H', rt := Q } rfl rfl (her.padR n) hm (fun z => z.elim) (fun z => z.elim) (fun z => z.elim) ?_
  intro a' i v F' H' σ' e h'
  cases e
  have hls : σ'.length = N.length - 1 + 1 := by have := h'.len; simpa using this
  cases σ' with
  | nil => simp at hls
  | cons o σ' =>
    have h3 : ER ⟨K, B, F0, H, io⟩ F' H' (some v :: o :: σ') (.st none R SR r :: .st (some v0) T ST t' :: List.replicate (N.length - 1) .un) := h'
    have ho : o = some v0 := by
      obtain ⟨fp, qq⟩ := h3.sl
      obtain ⟨v', e1, _, e2⟩ := qq.ok 1 _ rfl
      simp at e1
      rw [e1, e2.1]
    subst ho
    exact q F' H' v h3.head2
end
section
variable {X : Cx} {Ω : Type} {env : Env} {nm : Str} {pos np : Pos} {e : Expr} {xs : List Expr} {Pt A R T : Type} {SR : Stor R} {ST : Stor T} {e' : Pt → Env} {sl : A → Env} {k : Nat} {f : Addr} {fd : FuncData} {ps : List Str}
/-- f(..) -/
theorem lx_call {m : A → Option R} {fa : (A → Pt → Option Ω) → Option Ω} (Fn : FnOk X.prog X.w X.K X.mg X.base CX0 k f fd ps (spP X.K sl SR m)) (hr : Room k X.A) (hm : X.mg nm = some (.ref f)) (hk : PySem.W.keepIn X.K (.ref f) = true) (hb : Binds X.K fd ps []) (sh : ∀ a, ShE (sl a))
    (ha : LA X env (e :: xs) sl e' fa) (hg : Gl X nm := by rfl) (hdb : (nm == ("__debug__" : Str)) = false := by decide) (he : starEach (e :: xs) X.env = (false, eval e X.env) :: starEach xs X.env := by rfl) (hpl : (backTo pos (starEach xs X.env)).any (·.1) = false := by rfl) :
    LX X env (.Call (.Name nm np) (e :: xs) [] pos) SR e' (fun k => fa fun a p => (m a).bind fun r => k r p) :=
  fun C F H σs es σ k ω Q hK hl h hk' q => tE.of X (pe_call Fn hr hg hm hk hb .nil pass0 (paC X) hdb he hpl) (ha C F H σs es σ _ ω _ hK hl h hk' fun a p vs F' H' hk2 hlv h' => by
    obtain ⟨r, hm', hk2⟩ := bind_some hk2
    show spP X.K sl SR m (vs ++ []) H' Q _
    rw [List.append_nil, ← hK]
    exact ⟨H', F', a, r, hm', hlv, h'.enter hlv (sh a), fun F2 H2 v h2 => by
      obtain ⟨F3, h3⟩ := (h'.popN hlv).back h2
      exact q r p v F3 H2 hk2 h3⟩)
theorem lx_call0 {m : Unit → Option R} (Fn : FnOk X.prog X.w X.K X.mg X.base CX0 k f fd ps (spP X.K (fun _ : Unit => []) SR m)) (hr : Room k X.A) (hm : X.mg nm = some (.ref f)) (hk : PySem.W.keepIn X.K (.ref f) = true) (hb : Binds X.K fd ps [])
    (hg : Gl X nm := by rfl) (hdb : (nm == ("__debug__" : Str)) = false := by decide) :
    LX X env (.Call (.Name nm np) [] [] pos) SR (fun _ : Unit => env) (fun (k : R → Unit → Option Ω) => (m ()).bind fun r => k r ()) :=
  fun C F H σs es σ k ω Q hK hl h hk' q => tE.of X (pe_call0 Fn hr hg hm hk hb .nil pass0 hdb) (by
    obtain ⟨r, hm', hk2⟩ := bind_some hk'
    show spP X.K _ SR m [] H Q E0
    rw [← hK]
    refine ⟨H, F, (), r, hm', rfl, ER.enter (σa := []) (ea := []) h rfl .nil, fun F2 H2 v h2 => ?_⟩
    obtain ⟨F3, h3⟩ := h.back h2
    exact q r () v F3 H2 hk2 h3)
/-- into a def that changes the object of slot i -/
theorem ER.enterI {C : Ck} {F H : Hp} {σ : List (Option V)} {env : Env} {w : Option V} {t : T} {v0 : V} {i : Nat} {σa : List (Option V)} {ea : Env} (h : ER C F H (σa ++ σ) (ea ++ env)) (hl : σa.length = ea.length) (sh : ShE ea) (hi : env[i]? = some (.st w T ST t)) (hv : σ[i]? = some (some v0)) :
    ∃ B io, ER ⟨C.K, B, F, H, io⟩ F H (some v0 :: σa) (.st (some v0) T ST t :: ea) ∧ ∀ (R : Type) (SR : Stor R) (r : R) (t' : T) (F' H' : Hp) (v : V), ER ⟨C.K, B, F, H, io⟩ F' H' [some v, some v0] [.st none R SR r, .st (some v0) T ST t'] →
      ∃ F'', ER C F'' H' (some v :: σ) (.st none R SR r :: env.set i (.st w T ST t')) := by
  have h0 : ER C F H σ env := h.popN hl
  obtain ⟨fp, q⟩ := h0.sl
  have hil := lt_of_get hi
  obtain ⟨v', e1, rr, kk⟩ := q.ok i _ hi
  rw [hv] at e1
  simp at e1; subst e1
  have he := h.enter hl sh
  obtain ⟨fe, qe⟩ := he.sl
  refine ⟨fun a => if a ∈ fp i then none else H a, fp i, ⟨fun a o e => ?_, h0.sF, fun a m => .inl m, fun a m => m, by simp [hl], _, Fps.push (fp := fun _ => []) ⟨fun j s e => ?_, fun j hj a ha => (nomatch ha), fun j l _ _ a ha => (nomatch ha), fun j _ => List.nodup_nil⟩ (fq := fp i) ⟨v0, rfl, rr, rfl, fun a m => .inr m⟩ (fun a m => ⟨if_pos m, (q.own i hil a m).2⟩) (q.nd i hil) fun j _ a ha => (nomatch ha)⟩, ?_⟩
  · have e : (if a ∈ fp i then none else H a) = some o := e
    by_cases m : a ∈ fp i
    · rw [if_pos m] at e; cases e
    · rw [if_neg m] at e; exact e
  · obtain ⟨τ, S, x, rfl, cp⟩ := sh.slot j s e
    obtain ⟨v, e1, r, _⟩ := qe.ok j _ e
    have z := cp.nil r
    rw [z] at r
    exact ⟨v, e1, r, fun _ m => nomatch m⟩
  · intro R SR r t' F' H' v hc
    have bk : ∀ a, H a ≠ none → a ∉ fp i → H' a = H a := fun a m n => by
      cases e : H a with
      | none => exact absurd e m
      | some o => exact hc.sB a o (by show (if a ∈ fp i then none else H a) = _; rw [if_neg n]; exact e)
    have fn : ∀ a, F a ≠ none → a ∉ fp i := fun a m z => m (q.own i hil a z).2.1
    have bn : ∀ a, C.B a ≠ none → a ∉ fp i := fun a m z => m (q.own i hil a z).1
    have sFH : Same F H' := fun a o e => by
      have m : F a ≠ none := by rw [e]; exact fun z => by cases z
      rw [bk a (same_some h0.sF m) (fn a m)]; exact h0.sF a o e
    have up' : ∀ a, H a ≠ none → H' a ≠ none := fun a m => hc.up a m
    obtain ⟨fc, qc⟩ := hc.sl
    obtain ⟨v1, ev1, r1, n1⟩ := qc.ok 0 _ rfl
    obtain ⟨v2, ev2, r2, n2⟩ := qc.ok 1 _ rfl
    simp at ev1 ev2; subst ev1; subst ev2
    have l0 : 0 < ([.st none R SR r, .st (some v0) T ST t'] : Env).length := by simp
    have l1 : 1 < ([.st none R SR r, .st (some v0) T ST t'] : Env).length := by simp
    have i1 : ∀ a ∈ fc 1, H a = none ∨ a ∈ fp i := n2.2
    have sep01 : ∀ a ∈ fc 0, a ∉ fc 1 := fun a m z => by have := qc.sep 0 1 l0 l1 a m z; omega
    have fnn : ∀ a, (H a = none ∨ a ∈ fp i) → F a = none := fun a m => by
      rcases m with m | m
      · exact h0.fnone m
      · exact (q.own i hil a m).2.1
    have bnn : ∀ a, (H a = none ∨ a ∈ fp i) → C.B a = none := fun a m => by
      rcases m with m | m
      · exact h0.bnone m
      · exact (q.own i hil a m).1
    have jH : ∀ j, j < env.length → j ≠ i → ∀ a ∈ fp j, ¬ (H a = none ∨ a ∈ fp i) := fun j hj ne a ha z => by
      rcases z with z | z
      · exact (q.own j hj a ha).2.2 z
      · exact ne (q.sep j i hj hil a ha z)
    refine ⟨hun F F', fun a o e => ?_, hun_same sFH hc.sF, fun a m => ?_, fun a m => up' a (h0.up a m), by simp [h0.len], _, Fps.push (fp := fun j => if j = i then fc 1 else fp j) ⟨fun j s ej => ?_, fun j hj a ha => ?_, fun j l hj hl a ha hb => ?_, fun j hj => ?_⟩ (fq := fc 0) ⟨v, rfl, SR.monoF (same_hunR sFH hc.sF) r1, fun a m => h0.hnone (n1 a m)⟩ (fun a m => ?_) (qc.nd 0 l0) fun j hj a ha m => ?_⟩
    · have m : C.B a ≠ none := by rw [e]; exact fun z => by cases z
      rw [bk a (same_some h0.sB m) (bn a m)]; exact h0.sB a o e
    · rcases hun_some m with z | z
      · exact h0.gr a z
      · rcases hc.gr a z with y | y
        · exact h0.gr a y
        · exact .inr (h0.hnone y)
    · by_cases z : j = i
      · subst z
        rw [List.getElem?_set_self hil] at ej
        cases ej
        simp only [if_pos]
        refine ⟨v0, by rw [hv]; rfl, ST.monoF (same_hunR sFH hc.sF) r2, ?_⟩
        cases w with
        | none =>
          intro a ha
          rcases i1 a ha with m | m
          · exact h0.hnone m
          · exact kk a m
        | some w0 =>
          refine ⟨kk.1, fun a ha => ?_⟩
          rcases i1 a ha with m | m
          · exact .inl (h0.hnone m)
          · exact kk.2 a m
      · rw [List.getElem?_set_ne (fun y => z y.symm)] at ej
        have hj := lt_of_get ej
        simp only [if_neg z]
        exact (q.ok j s ej).go same_hunL (fun a m => bk a (same_some h0.sB m) (bn a m)) fun a ha => bk a (q.own j hj a ha).2.2 fun y => jH j hj z a ha (.inr y)
    · have hj' : j < env.length := by simpa using hj
      by_cases z : j = i
      · simp only [if_pos z] at ha
        exact ⟨bnn a (i1 a ha), hun_none (fnn a (i1 a ha)) (qc.own 1 l1 a ha).2.1, (qc.own 1 l1 a ha).2.2⟩
      · simp only [if_neg z] at ha
        obtain ⟨b, f, c⟩ := q.own j hj' a ha
        refine ⟨b, hun_none f ?_, up' a c⟩
        cases e : F' a with
        | none => rfl
        | some o =>
          rcases hc.gr a (by rw [e]; exact fun z => by cases z) with y | y
          · exact absurd f y
          · exact absurd y c
    · have hj' : j < env.length := by simpa using hj
      have hl' : l < env.length := by simpa using hl
      by_cases zj : j = i
      · by_cases zl : l = i
        · rw [zj, zl]
        · simp only [if_pos zj] at ha
          simp only [if_neg zl] at hb
          exact absurd (i1 a ha) (jH l hl' zl a hb)
      · simp only [if_neg zj] at ha
        by_cases zl : l = i
        · simp only [if_pos zl] at hb
          exact absurd (i1 a hb) (jH j hj' zj a ha)
        · simp only [if_neg zl] at hb
          exact q.sep j l hj' hl' a ha hb
    · have hj' : j < env.length := by simpa using hj
      by_cases z : j = i
      · simp only [if_pos z]; exact qc.nd 1 l1
      · simp only [if_neg z]; exact q.nd j hj'
    · have := n1 a m
      exact ⟨h0.bnone this, hun_none (h0.fnone this) (qc.own 0 l0 a m).2.1, (qc.own 0 l0 a m).2.2⟩
    · have hj' : j < env.length := by simpa using hj
      by_cases z : j = i
      · simp only [if_pos z] at ha
        exact sep01 a m ha
      · simp only [if_neg z] at ha
        exact (q.own j hj' a ha).2.2 (n1 a m)
/-- f(x, ..), f changes x's object -/
theorem lx_callI {w : Option V} {t0 : T} {t : Pt → T} {m : T → A → Option (R × T)} {fa : (A → Pt → Option Ω) → Option Ω} {vn : Str} {vp : Pos} (i : Nat) (Fn : FnOk X.prog X.w X.K X.mg X.base CX0 k f fd ps (spI X.K ST sl SR m)) (hr : Room k X.A) (hm : X.mg nm = some (.ref f)) (hk : PySem.W.keepIn X.K (.ref f) = true) (hb : Binds X.K fd ps []) (sh : ∀ a, ShE (sl a))
    (h0 : env[i]? = some (.st w T ST t0)) (ha : LA X env xs sl e' fa) (h1 : ∀ p, (e' p)[i]? = some (.st w T ST (t p))) (hN : X.N[i]? = some vn := by rfl) (hv : Vis X.env.scope vn := by first | exact Or.inl rfl | exact Or.inr (Or.inl rfl) | exact Or.inr (Or.inr rfl)) (hd : (vn == ("__debug__" : Str)) = false := by decide) (hcd : (vn == ("__classdict__" : Str)) = false := by decide)
    (hg : Gl X nm := by rfl) (hdb : (nm == ("__debug__" : Str)) = false := by decide) (he : starEach (Expr.Name vn vp :: xs) X.env = (false, eval (Expr.Name vn vp) X.env) :: starEach xs X.env := by rfl) (hpl : (backTo pos (starEach xs X.env)).any (·.1) = false := by rfl) :
    LX X env (.Call (.Name nm np) (.Name vn vp :: xs) [] pos) SR (fun p : Pt × T => (e' p.1).set i (.st w T ST p.2)) (fun k => fa fun a p => (m (t p) a).bind fun r => k r.1 (p, r.2)) :=
  fun C F H σs es σ k ω Q hK hl h hk' q => tE.of X (pe_call Fn hr hg hm hk hb .nil pass0 (paC X) hdb he hpl) (la_lend i h0 hN hv ha hd hcd he C F H σs es σ _ ω _ hK hl h hk' fun a p v0 vs F' H' hk2 hv0 hlv h' => by
    obtain ⟨⟨r, t'⟩, hm', hk2⟩ := bind_some hk2
    show spI X.K ST sl SR m (v0 :: vs ++ []) H' Q _
    rw [List.append_nil, ← hK]
    have h2 : ER C F' H' (vs.map some ++ (σs ++ σ)) (sl a ++ (es ++ e' p)) := h'
    obtain ⟨B, io, g1, g2⟩ := h2.enterI (i := es.length + i) (v0 := v0) hlv (sh a) (by rw [at_app _ rfl]; exact h1 p) (by rw [at_app _ hl]; exact hv0)
    refine ⟨B, F', io, t p, a, r, t', v0, vs, rfl, hm', hlv, g1, fun F2 H2 v h3 => ?_⟩
    obtain ⟨F3, h4⟩ := g2 R SR r t' F2 H2 v h3
    rw [List.set_append_right _ _ (Nat.le_add_right _ _), Nat.add_sub_cancel_left] at h4
    exact q r (p, t') v F3 H2 hk2 h4)
end
end Z

set_option Elab.async false
set_option linter.all false
set_option maxRecDepth 100000
namespace Z
open PySem PySem.Spec PyProof.Rows L2

/-! ### comprehensions -/
def compO {α β S Ω : Type} : List α → S → (α → S → (Option β → S → Option Ω) → Option Ω) → List β → (List β → S → Option Ω) → Option Ω
  | [], s, _, acc, k => k acc s
  | x :: xs, s, b, acc, k => b x s fun o s' => match o with
    | some y => ck (decide (acc.length < SZ)) (compO xs s' b (acc ++ [y]) k)
    | none => compO xs s' b acc k
section
variable {C : Ck} {F F' H H' : Hp} {σ σ' σs : List (Option V)} {env es : Env}
theorem ER.like (h : ER C F H (σs ++ σ) (es ++ env)) (hl : σs.length = es.length) (hl2 : σ'.length = σ.length) (he : ∀ (j : Nat) (s : Slot), env[j]? = some s → s = Slot.un ∨ σ'[j]? = σ[j]?) : ER C F H (σs ++ σ') (es ++ env) := by
  have hls := h.lenF hl
  refine h.perm (by simp [hl, hl2, hls]) id fun j s' e => ?_
  by_cases z : j < es.length
  · exact .inr ⟨e, by rw [id, List.getElem?_append_left (by omega), List.getElem?_append_left (by omega)], fun l _ _ _ y => y⟩
  · obtain ⟨m, rfl⟩ : ∃ m, j = es.length + m := ⟨j - es.length, by omega⟩
    have e' := e
    rw [at_app _ rfl] at e'
    rcases he m s' e' with y | y
    · exact .inl y
    · exact .inr ⟨e, by rw [id, at_app _ hl, at_app _ hl, y], fun l _ _ _ y => y⟩
end
section
variable (X : Cx) {Ω : Type}
def tTl (ifs : List Expr) : TT := fun σ H Q => ∀ pins s, Inv X pins σ H s → wpAny (model X.prog X.w) X.A (forIn ifs true fun c r => if r = true then do let ok ← isTrue c X.env (eval c X.env); pure (ForInStep.yield ok) else pure (ForInStep.yield r)) (TP X pins σ Q) X.xe s
theorem ptsC {ifs : List Expr} : PTs X ifs (tTl X ifs) := ⟨fun pins s σ H Q I h => h pins s I⟩
theorem tTl.of {ifs : List Expr} {t : TT} {σ : L2.St} {H : Hp} {Q : Bool → Hp → Prop} (h : PTs X ifs t) (q : t σ H Q) : tTl X ifs σ H Q := fun pins s I => h.run pins s σ H Q I q
/-- the tests of a comprehension -/
def LTl (env : Env) (ifs : List Expr) {P : Type} (env' : P → Env) (f : (Bool → P → Option Ω) → Option Ω) : Prop :=
  ∀ (C : Ck) (F H : Hp) (σs : List (Option V)) (es : Env) (σ : List (Option V)) (k : Bool → P → Option Ω) (ω : Ω) (Q : Bool → Hp → Prop), C.K = X.K → σs.length = es.length → ER C F H (σs ++ σ) (es ++ env) → f k = some ω →
    (∀ a p F' H', k a p = some ω → ER C F' H' (σs ++ σ) (es ++ env' p) → Q a H') → tTl X ifs σ H Q
end
/-- the contexts of a block's turns -/
structure Blk (X : Cx) (scope : Scope) (Y : Cx) : Prop where
  is : ∃ (s : Shared) (H : Hp) (C : Addr) (cl : List (Str × Addr)) (fp : List Addr), Y = X.blk s H scope (compEnvC scope cl C X.env) fp
section
variable {X : Cx} {Ω : Type} {env : Env} {nm : Str} {pos spos np : Pos} {a b c e elt tg iter : Expr} {ifs : List Expr} {P P1 P2 T : Type} {τ τ1 τ2 α β : Type} {S : Stor τ} {Sa : Stor α} {Sb : Stor β} {E : Enc τ} {e' : P → Env} {scope : Scope} {own : List (Str × Nat)} {ix : List Nat}
theorem ltl_nil : LTl X env [] (fun _ : Unit => env) (fun (k : Bool → Unit → Option Ω) => k true ()) :=
  fun C F H σs es σ k ω Q hK hl hr hk q => tTl.of X pts_nil (q true () F H hk hr)
theorem ltl_one {f : (Bool → P → Option Ω) → Option Ω} (h : LT X env c e' f) : LTl X env [c] e' f :=
  fun C F H σs es σ k ω Q hK hl hr hk q => tTl.of X (pts_one (ptC X)) (h C F H σs es σ k ω Q hK hl hr hk q)
theorem lc_run {envT : T → Env} {envX : T → α → Env} {eT : T → α → P1 → Env} {eE : T → α → P1 → P2 → Env} {f : (List α → P → Option Ω) → Option Ω} {ft : T → α → (Bool → P1 → Option Ω) → Option Ω} {fe : T → α → P1 → (β → P2 → Option Ω) → Option Ω}
    (hi : LI X env tg iter Sa e' f) (s0 : P → T) (h0 : ∀ p, Sub (e' p) (envT (s0 p))) (hu : ∀ (t : T) (i : Nat) (s : Slot), i ∈ own.map (·.2) → (envT t)[i]? = some s → s = Slot.un)
    (hg : ∀ Y, Blk X scope Y → ∀ t, LG Y (own.map (·.2)) (envT t) tg Sa (envX t)) (ht : ∀ Y, Blk X scope Y → ∀ t x, LTl Y (envX t x) ifs (eT t x) (ft t x)) (he : ∀ Y, Blk X scope Y → ∀ t x p, LX Y (eT t x p) elt Sb (eE t x p) (fe t x p))
    (tn : T → α → P1 → P2 → T) (hn : ∀ t x p q, Sub (eE t x p q) (envT (tn t x p q))) (tf : T → α → P1 → T) (hf : ∀ t x p, Sub (eT t x p) (envT (tf t x p)))
    {C : Ck} {F H : Hp} {σs : List (Option V)} {es : Env} {σ : List (Option V)} {k : List β → T → Option Ω} {ω : Ω} {Q : VK} (hK : C.K = X.K) (hl : σs.length = es.length) (h : ER C F H (σs ++ σ) (es ++ env))
    (hk : (f fun xs p => compO xs (s0 p) (fun x t kc => ft t x fun b p1 => if b = true then fe t x p1 fun y p2 => kc (some y) (tn t x p1 p2) else kc none (tf t x p1)) [] k) = some ω)
    (q : ∀ ys t v F' H', k ys t = some ω → ER C F' H' (some v :: (σs ++ σ)) (.st none (List β) (ls Sb) ys :: (es ++ envT t)) → Q v H') :
    tLc (tI X tg iter) (fun v σ H Q => ∀ Y, Blk X scope Y → tG Y tg v σ H Q) (fun σ H Q => ∀ Y, Blk X scope Y → tTl Y ifs σ H Q) (fun σ H Q => ∀ Y, Blk X scope Y → tE Y elt σ H Q) (own.map (·.2)) σ H Q := by
  refine hi C F H σs es σ _ ω _ hK hl h hk fun xs p Jt F' H' σx ex hk' h' hy => ?_
  intro D nD
  have like : ∀ {F2 H2 σp ep t}, σp.length = ep.length → ER C F2 H2 (σp ++ (σx ++ (σs ++ σ))) (ep ++ (ex ++ (es ++ envT t))) → ER C F2 H2 (σp ++ (σx ++ (σs ++ wipe σ (own.map (·.2))))) (ep ++ (ex ++ (es ++ envT t))) := fun {F2 H2 σp ep t} hlp h2 => by
    have h3 : ER C F2 H2 ((σp ++ σx ++ σs) ++ σ) ((ep ++ ex ++ es) ++ envT t) := by simpa [List.append_assoc] using h2
    have := h3.like (σ' := wipe σ (own.map (·.2))) (by simp [hlp, hl, hy.len]) (wipe_length _ _) fun j s e => by
      by_cases m : j ∈ own.map (·.2)
      · exact .inl (hu t j s m e)
      · refine .inr ?_
        rw [wipe_get, if_neg m]
    simpa [List.append_assoc] using this
  have unlike : ∀ {F2 H2 σp ep t σ4}, σp.length = ep.length → σ4.length = σ.length → wipe σ4 (own.map (·.2)) = wipe σ (own.map (·.2)) → ER C F2 H2 (σp ++ (σx ++ (σs ++ σ4))) (ep ++ (ex ++ (es ++ envT t))) → ER C F2 H2 (σp ++ (σx ++ (σs ++ σ))) (ep ++ (ex ++ (es ++ envT t))) := fun {F2 H2 σp ep t σ4} hlp hl4 hw h2 => by
    have h3 : ER C F2 H2 ((σp ++ σx ++ σs) ++ σ4) ((ep ++ ex ++ es) ++ envT t) := by simpa [List.append_assoc] using h2
    have := h3.like (σ' := σ) (by simp [hlp, hl, hy.len]) hl4.symm fun j s e => by
      by_cases m : j ∈ own.map (·.2)
      · exact .inl (hu t j s m e)
      · refine .inr ?_
        have := congrArg (fun l => l[j]?) hw
        simp only [wipe_get, if_neg m] at this
        exact this.symm
    simpa [List.append_assoc] using this
  have hnew : ER C F' (upd H' D (.lst [])) (some (.ref D) :: (σx ++ (σs ++ σ))) (.st none (List β) (ls Sb) [] :: (ex ++ (es ++ e' p))) := h'.newOw nD ⟨D, [], [], rfl, upd_same, .nil, rfl⟩
  refine ⟨fun i m H2 => m = xs.length - i ∧ i ≤ xs.length ∧ ∃ acc t F2, ER C F2 H2 (some (.ref D) :: (σx ++ (σs ++ σ))) (.st none (List β) (ls Sb) acc :: (ex ++ (es ++ envT t))) ∧
    compO (xs.drop i) t (fun x t kc => ft t x fun b p1 => if b = true then fe t x p1 fun y p2 => kc (some y) (tn t x p1 p2) else kc none (tf t x p1)) acc k = some ω,
    ⟨xs.length, by simp, Nat.zero_le _, [], s0 p, F', ER.sub hnew (.keep (((h0 p).pre es).pre ex)), by simpa using hk'⟩, ?_⟩
  rintro i m H2 ⟨rfl, hi', acc, t, F2, h2, hk2⟩
  obtain ⟨y1, y2⟩ := hy.go i F2 H2 [some (.ref D)] (σs ++ σ) [.st none (List β) (ls Sb) acc] (es ++ envT t) rfl h2
  by_cases hlt : i < xs.length
  · have ex1 : xs[i]? = some xs[i] := List.getElem?_eq_getElem hlt
    obtain ⟨g1, g2⟩ := y1 _ ex1
    have ed : xs.drop i = xs[i] :: xs.drop (i + 1) := List.drop_eq_getElem_cons hlt
    rw [ed] at hk2
    refine .inr ⟨g1, fun H3 => ∃ acc t F3, ER C F3 H3 (some (.ref D) :: (σx ++ (σs ++ σ))) (.st none (List β) (ls Sb) acc :: (ex ++ (es ++ envT t))) ∧
      compO (xs.drop (i + 1)) t (fun x t kc => ft t x fun b p1 => if b = true then fe t x p1 fun y p2 => kc (some y) (tn t x p1 p2) else kc none (tf t x p1)) acc k = some ω,
      fun H3 ⟨acc3, t3, F3, h3, hk3⟩ => ⟨xs.length - (i + 1), by omega, rfl, hlt, acc3, t3, F3, h3, hk3⟩, fun v H3 hv Y bY => ?_⟩
    have YK : C.K = Y.K := by obtain ⟨_, _, _, _, _, rfl⟩ := bY.is; exact hK
    obtain ⟨F3, h3⟩ := g2 v H3 hv
    have h3' := like (σp := [some v, some (.ref D)]) (ep := [.st none α Sa xs[i], .st none (List β) (ls Sb) acc]) rfl h3
    have lenp : ((some (.ref D) : Option V) :: (σx ++ σs)).length = ((.st none (List β) (ls Sb) acc : Slot) :: (ex ++ es)).length := by simp [hl, hy.len]
    refine hg Y bY t C F3 H3 (some (.ref D) :: (σx ++ σs)) (.st none (List β) (ls Sb) acc :: (ex ++ es)) (wipe σ (own.map (·.2))) v xs[i] _ YK lenp (by simpa [List.append_assoc] using h3') fun σ4 e4 h4 => ?_
    have hw : wipe σ4 (own.map (·.2)) = wipe (wipe σ (own.map (·.2))) (own.map (·.2)) := e4.wipe
    have hww : wipe (wipe σ (own.map (·.2))) (own.map (·.2)) = wipe σ (own.map (·.2)) := by
      apply List.ext_getElem?
      intro j
      rw [wipe_get, wipe_length, wipe_get]
      by_cases m : j ∈ own.map (·.2)
      · rw [if_pos m, if_pos m]
      · rw [if_neg m, if_neg m]
    have hl4 : σ4.length = σ.length := by rw [e4.1, wipe_length]
    refine ⟨hw.trans hww, fun Y bY => ?_⟩
    have YK : C.K = Y.K := by obtain ⟨_, _, _, _, _, rfl⟩ := bY.is; exact hK
    refine ht Y bY t xs[i] C F3 H3 (some (.ref D) :: (σx ++ σs)) (.st none (List β) (ls Sb) acc :: (ex ++ es)) σ4 _ ω _ YK lenp h4 hk2 fun bb p1 F5 H5 hk5 h5 => ?_
    cases bb with
    | false =>
      rw [if_neg Bool.false_ne_true] at hk5 ⊢
      refine ⟨acc, tf t xs[i] p1, F5, ?_, hk5⟩
      have h6 := ER.subF (σs := some (.ref D) :: (σx ++ σs)) h5 (hf t xs[i] p1)
      exact unlike (σp := [some (.ref D)]) (ep := [.st none (List β) (ls Sb) acc]) rfl hl4 (hw.trans hww) (by simpa [List.append_assoc] using h6)
    | true =>
      rw [if_pos rfl] at hk5 ⊢
      intro Y bY
      have YK : C.K = Y.K := by obtain ⟨_, _, _, _, _, rfl⟩ := bY.is; exact hK
      refine he Y bY t xs[i] p1 C F5 H5 (some (.ref D) :: (σx ++ σs)) (.st none (List β) (ls Sb) acc :: (ex ++ es)) σ4 _ ω _ YK lenp h5 hk5 fun y p2 u F6 H6 hk6 h6 => ?_
      have h7 : ER C F6 H6 (some u :: some (.ref D) :: (σx ++ (σs ++ σ4))) (.st none β Sb y :: .st none (List β) (ls Sb) acc :: (ex ++ (es ++ eE t xs[i] p1 p2))) := by simpa [List.append_assoc] using h6
      obtain ⟨hc, hk6⟩ := ck_some hk6
      obtain ⟨v', fp', v0, fq, e2, e3, r1, r2, nd, ow, fin⟩ := h7.absorb (i := 0) (w := none) (τ := List β) (S := ls Sb) (x := acc) rfl
      simp at e2 e3; subst e2; subst e3
      obtain ⟨q1, vs, fps, e4', hq, ra, rfl⟩ := r1
      cases e4'
      have hlen := ra.length
      have hc' := of_decide_eq_true hc
      refine ⟨vs, hq, by rw [SZ_eq]; omega, acc ++ [y], tn t xs[i] p1 p2, F6, ?_, hk6⟩
      have nm : D ∉ fps ++ fq := by
        have : (D :: (fps ++ fq)).Nodup := by simpa using nd
        exact (List.nodup_cons.mp this).1
      have fin' := fin (List β) (ls Sb) (acc ++ [y]) (upd H6 D (.lst (vs ++ [u]))) (D :: (fps ++ fq)) (fun a na _ => upd_ne fun z => na (by rw [z]; simp)) (fun a m => by
        by_cases z : a = D
        · subst z; rw [upd_same]; exact fun z => by cases z
        · rw [upd_ne z]; exact m) ⟨D, vs ++ [u], fps ++ fq, rfl, upd_same, RelAll.imp (fun fr' v' x' s q => Sb.frame (fun a m => upd_ne fun z => nm (z ▸ s a m)) q) (ra.app r2), rfl⟩ (by simpa using nd) (fun a m => by
        refine ⟨?_, .inl (by simpa using m)⟩
        by_cases z : a = D
        · subst z; rw [upd_same]; exact fun z => by cases z
        · rw [upd_ne z]; exact (ow a (by simpa using m)).2.2)
      have h8 : ER C F6 (upd H6 D (.lst (vs ++ [u]))) ((some (.ref D) :: (σx ++ σs)) ++ σ4) ((.st none (List β) (ls Sb) (acc ++ [y]) :: (ex ++ es)) ++ eE t xs[i] p1 p2) := by simpa [List.append_assoc] using fin'
      have h9 := h8.subF (hn t xs[i] p1 p2)
      exact unlike (σp := [some (.ref D)]) (ep := [.st none (List β) (ls Sb) (acc ++ [y])]) rfl hl4 (hw.trans hww) (by simpa [List.append_assoc] using h9)
  · have e : i = xs.length := by omega
    subst e
    refine .inl ⟨y2 (by simp), q acc t (.ref D) F2 H2 (by simpa [compO] using hk2) ?_⟩
    have h3 : ER C F2 H2 (σx ++ some (.ref D) :: (σs ++ σ)) (ex ++ .st none (List β) (ls Sb) acc :: (es ++ envT t)) := ER.unrot h2 hy.len
    exact h3.popN hy.len
end
end Z

set_option Elab.async false
set_option linter.all false
set_option maxRecDepth 100000
namespace Z
open PySem PySem.Spec PyProof.Rows L2

section
variable {X : Cx} {Ω : Type} {env : Env} {nm : Str} {pos spos np : Pos} {a b c e elt tg iter : Expr} {ifs : List Expr} {P P1 P2 T : Type} {τ τ1 τ2 α β : Type} {S : Stor τ} {Sa : Stor α} {Sb : Stor β} {E : Enc τ} {e' : P → Env} {scope : Scope} {own : List (Str × Nat)} {ix : List Nat}
/-- [elt for tg in iter if ..] -/
theorem lx_lc {envT : T → Env} {envX : T → α → Env} {eT : T → α → P1 → Env} {eE : T → α → P1 → P2 → Env} {f : (List α → P → Option Ω) → Option Ω} {ft : T → α → (Bool → P1 → Option Ω) → Option Ω} {fe : T → α → P1 → (β → P2 → Option Ω) → Option Ω}
    (hc : X.calm = true) (hN : X.N.Nodup) (ok : BlkOk X.N X.env.scope scope own)
    (hi : LI X env tg iter Sa e' f) (s0 : P → T) (h0 : ∀ p, Sub (e' p) (envT (s0 p))) (hu : ∀ (t : T) (i : Nat) (s : Slot), i ∈ own.map (·.2) → (envT t)[i]? = some s → s = Slot.un)
    (hg : ∀ (s : Shared) (H : Hp) (C : Addr) (cl : List (Str × Addr)) (fp : List Addr) t, LG (X.blk s H scope (compEnvC scope cl C X.env) fp) (own.map (·.2)) (envT t) tg Sa (envX t)) (ht : ∀ (s : Shared) (H : Hp) (C : Addr) (cl : List (Str × Addr)) (fp : List Addr) t x, LTl (X.blk s H scope (compEnvC scope cl C X.env) fp) (envX t x) ifs (eT t x) (ft t x)) (he : ∀ (s : Shared) (H : Hp) (C : Addr) (cl : List (Str × Addr)) (fp : List Addr) t x p, LX (X.blk s H scope (compEnvC scope cl C X.env) fp) (eT t x p) elt Sb (eE t x p) (fe t x p))
    (tn : T → α → P1 → P2 → T) (hn : ∀ t x p q, Sub (eE t x p q) (envT (tn t x p q))) (tf : T → α → P1 → T) (hf : ∀ t x p, Sub (eT t x p) (envT (tf t x p)))
    (hs : ∀ x, foldedSetIterable iter X.env x = pure x := by intro _; rfl) :
    LX X env (.ListComp elt [⟨tg, iter, ifs, 0⟩] scope pos) (ls Sb) envT (fun k => f fun xs p => compO xs (s0 p) (fun x t kc => ft t x fun b p1 => if b = true then fe t x p1 fun y p2 => kc (some y) (tn t x p1 p2) else kc none (tf t x p1)) [] k) :=
  fun C F H σs es σ k ω Q hK hl h hk q => tE.of X (pe_lc hc hN (piC X) ok (fun s H C cl fp => ⟨fun pins s' σ H' v u Q I r h => h _ ⟨s, H, C, cl, fp, rfl⟩ pins s' u I r⟩) (fun s H C cl fp => ⟨fun pins s' σ H' Q I h => h _ ⟨s, H, C, cl, fp, rfl⟩ pins s' I⟩) (fun s H C cl fp => ⟨fun pins s' σ H' Q I h => h _ ⟨s, H, C, cl, fp, rfl⟩ pins s' I⟩) hs)
    (lc_run hi s0 h0 hu (fun Y bY => by obtain ⟨s, H, C, cl, fp, rfl⟩ := bY.is; exact hg s H C cl fp) (fun Y bY => by obtain ⟨s, H, C, cl, fp, rfl⟩ := bY.is; exact ht s H C cl fp) (fun Y bY => by obtain ⟨s, H, C, cl, fp, rfl⟩ := bY.is; exact he s H C cl fp) tn hn tf hf hK hl h hk q)
/-- y = [..], y a local of the def, on one line -/
theorem lb_setLc {R I J : Type} {SR : Stor R} {envR : I → Env} {kr : R → I → Option Ω} {bk ct : Lp Ω} {rest : List Stmt} {envJ : J → Env} {fr : List β → T → (J → Option Ω) → Option Ω} {py : Pos}
    {envT : T → Env} {envX : T → α → Env} {eT : T → α → P1 → Env} {eE : T → α → P1 → P2 → Env} {f : (List α → P → Option Ω) → Option Ω} {ft : T → α → (Bool → P1 → Option Ω) → Option Ω} {fe : T → α → P1 → (β → P2 → Option Ω) → Option Ω}
    (hc : X.calm = true) (hN : X.N.Nodup) (ok : BlkOk X.N X.env.scope scope own) (i : Nat)
    (hi : LI X env tg iter Sa e' f) (s0 : P → T) (h0 : ∀ p, Sub (e' p) (envT (s0 p))) (hu : ∀ (t : T) (i : Nat) (s : Slot), i ∈ own.map (·.2) → (envT t)[i]? = some s → s = Slot.un)
    (hg : ∀ (s : Shared) (H : Hp) (C : Addr) (cl : List (Str × Addr)) (fp : List Addr) t, LG (X.blk s H scope (compEnvC scope cl C X.env) fp) (own.map (·.2)) (envT t) tg Sa (envX t)) (ht : ∀ (s : Shared) (H : Hp) (C : Addr) (cl : List (Str × Addr)) (fp : List Addr) t x, LTl (X.blk s H scope (compEnvC scope cl C X.env) fp) (envX t x) ifs (eT t x) (ft t x)) (he : ∀ (s : Shared) (H : Hp) (C : Addr) (cl : List (Str × Addr)) (fp : List Addr) t x p, LX (X.blk s H scope (compEnvC scope cl C X.env) fp) (eT t x p) elt Sb (eE t x p) (fe t x p))
    (tn : T → α → P1 → P2 → T) (hn : ∀ t x p q, Sub (eE t x p q) (envT (tn t x p q))) (tf : T → α → P1 → T) (hf : ∀ t x p, Sub (eT t x p) (envT (tf t x p)))
    (hr : ∀ ys t, LB X SR envR kr bk ct ((envT t).set i (.st none (List β) (ls Sb) ys)) rest envJ (fr ys t)) (hsw : swapsWith (.ListComp elt [⟨tg, iter, ifs, 0⟩] scope pos) (some (.Name nm py)) spos.line X.env = pure true) (hlt : ∀ t, i < (envT t).length := by exact (fun _ => Nat.lt_of_sub_eq_succ rfl)) (hy : X.N[i]? = some nm := by rfl) (hyl : X.env.scope.names.lookup nm = some .local := by rfl)
    (hs : ∀ x, foldedSetIterable iter X.env x = pure x := by intro _; rfl) :
    LB X SR envR kr bk ct env (.Assign [.Name nm py] (.ListComp elt [⟨tg, iter, ifs, 0⟩] scope pos) spos :: rest) envJ
      (fun kn => f fun xs p => compO xs (s0 p) (fun x t kc => ft t x fun b p1 => if b = true then fe t x p1 fun y p2 => kc (some y) (tn t x p1 p2) else kc none (tf t x p1)) [] fun ys t => fr ys t kn) :=
  fun C F H σs es σ kn ω D hK hl h hk qn qb qc qr => tSs.of X (pss_cons (ps_setLc (g := fun v σ H Q => ∀ Y, Blk X scope Y → tG Y tg v σ H Q) (tt := fun σ H Q => ∀ Y, Blk X scope Y → tTl Y ifs σ H Q) (te := fun σ H Q => ∀ Y, Blk X scope Y → tE Y elt σ H Q) hc hN hy hyl hsw (piC X) ok (fun s H C cl fp => ⟨fun pins s' σ H' v u Q I r h => h _ ⟨s, H, C, cl, fp, rfl⟩ pins s' u I r⟩) (fun s H C cl fp => ⟨fun pins s' σ H' Q I h => h _ ⟨s, H, C, cl, fp, rfl⟩ pins s' I⟩) (fun s H C cl fp => ⟨fun pins s' σ H' Q I h => h _ ⟨s, H, C, cl, fp, rfl⟩ pins s' I⟩) hs) (pssC X))
    (lc_run hi s0 h0 hu (fun Y bY => by obtain ⟨s, H, C, cl, fp, rfl⟩ := bY.is; exact hg s H C cl fp) (fun Y bY => by obtain ⟨s, H, C, cl, fp, rfl⟩ := bY.is; exact ht s H C cl fp) (fun Y bY => by obtain ⟨s, H, C, cl, fp, rfl⟩ := bY.is; exact he s H C cl fp) tn hn tf hf hK hl h hk fun ys t v F' H' hk' h' => hr ys t C F' H' σs es (σ.set i (some v)) kn ω D hK hl (h'.asg hl (hlt t)) hk' qn qb qc qr)

/-! ### built-ins over one thing -/
/-- f(e): what comes back is told by data -/
theorem lx_b1 {G : Env → Prop} {id : String} {r : List V → Hp → VK → Prop} {E : Enc β} {g : τ → Option β} {f : (τ → P → Option Ω) → Option Ω} (hcall : CallR X (.builtin id) r) (hm : X.mg nm = none) (hv : bootBuiltins nm = some (.builtin id)) (ha : LO X G env a S e' f) (hG : ∀ p, G (e' p))
    (hr : ∀ K F H fp v x y (Q : VK), K = X.K → Same F H → g x = some y → S.rel K F H fp v x → (∀ u, Rep K F u (E.enc y) → Q u H) → r [v] H Q)
    (hg : Gl X nm := by rfl) (hn : nm ≠ "__name__" := by decide) (hdb : (nm == ("__debug__" : Str)) = false := by decide) (he : starEach (a :: []) X.env = (false, eval a X.env) :: starEach [] X.env := by rfl) (hpl : (backTo pos (starEach [] X.env)).any (·.1) = false := by rfl) :
    LX X env (.Call (.Name nm np) [a] [] pos) (it E) e' (fun k => f fun x p => (g x).bind fun y => k y p) :=
  fun C F H σs es σ k ω Q hK hl h hk q => tE.of X (pe_callB hcall hg hm hv (pa_cons (peC X) pa_nil he) hn hdb he hpl) (lo_run ha hG hK hl h hk fun x p v F' H' fp hk' h' rr => by
    obtain ⟨y, hy, hk'⟩ := bind_some hk'
    exact hr C.K F' H' fp v x y Q hK h'.sF hy rr fun u hu => q y p u F' H' hk' (h'.pushSh hu))
/-- .. that always comes back -/
theorem lx_b1t {G : Env → Prop} {id : String} {r : List V → Hp → VK → Prop} {E : Enc β} {g : τ → β} {f : (τ → P → Option Ω) → Option Ω} (hcall : CallR X (.builtin id) r) (hm : X.mg nm = none) (hv : bootBuiltins nm = some (.builtin id)) (ha : LO X G env a S e' f) (hG : ∀ p, G (e' p))
    (hr : ∀ K F H fp v x (Q : VK), K = X.K → Same F H → S.rel K F H fp v x → (∀ u, Rep K F u (E.enc (g x)) → Q u H) → r [v] H Q)
    (hg : Gl X nm := by rfl) (hn : nm ≠ "__name__" := by decide) (hdb : (nm == ("__debug__" : Str)) = false := by decide) (he : starEach (a :: []) X.env = (false, eval a X.env) :: starEach [] X.env := by rfl) (hpl : (backTo pos (starEach [] X.env)).any (·.1) = false := by rfl) :
    LX X env (.Call (.Name nm np) [a] [] pos) (it E) e' (fun k => f fun x p => k (g x) p) :=
  fun C F H σs es σ k ω Q hK hl h hk q => tE.of X (pe_callB hcall hg hm hv (pa_cons (peC X) pa_nil he) hn hdb he hpl) (lo_run ha hG hK hl h hk fun x p v F' H' fp hk' h' rr =>
    hr C.K F' H' fp v x Q hK h'.sF rr fun u hu => q (g x) p u F' H' hk' (h'.pushSh hu))
/-- .. of a type -/
theorem lx_y1t {G : Env → Prop} {Ty : String} {r : List V → Hp → VK → Prop} {E : Enc β} {g : τ → β} {f : (τ → P → Option Ω) → Option Ω} (hcall : CallR X (.type Ty) r) (hm : X.mg nm = none) (hv : bootBuiltins nm = some (.type Ty)) (ha : LO X G env a S e' f) (hG : ∀ p, G (e' p))
    (hr : ∀ K F H fp v x (Q : VK), K = X.K → Same F H → S.rel K F H fp v x → (∀ u, Rep K F u (E.enc (g x)) → Q u H) → r [v] H Q)
    (hg : Gl X nm := by rfl) (hn : nm ≠ "__name__" := by decide) (hdb : (nm == ("__debug__" : Str)) = false := by decide) (he : starEach (a :: []) X.env = (false, eval a X.env) :: starEach [] X.env := by rfl) (hpl : (backTo pos (starEach [] X.env)).any (·.1) = false := by rfl) :
    LX X env (.Call (.Name nm np) [a] [] pos) (it E) e' (fun k => f fun x p => k (g x) p) :=
  fun C F H σs es σ k ω Q hK hl h hk q => tE.of X (pe_callTy hcall hg hm hv (pa_cons (peC X) pa_nil he) hn hdb he hpl) (lo_run ha hG hK hl h hk fun x p v F' H' fp hk' h' rr =>
    hr C.K F' H' fp v x Q hK h'.sF rr fun u hu => q (g x) p u F' H' hk' (h'.pushSh hu))
/-- .. that makes a new list of shared things -/
theorem lx_b1n {G : Env → Prop} {id : String} {r : List V → Hp → VK → Prop} {E : Enc β} {g : τ → Option (List β)} {f : (τ → P → Option Ω) → Option Ω} (hcall : CallR X (.builtin id) r) (hm : X.mg nm = none) (hv : bootBuiltins nm = some (.builtin id)) (ha : LO X G env a S e' f) (hG : ∀ p, G (e' p))
    (hr : ∀ K F H fp v x y (Q : VK), K = X.K → Same F H → g x = some y → S.rel K F H fp v x → (∀ t vs, H t = none → RepAll K F vs (y.map E.enc) → Q (.ref t) (upd H t (.lst vs))) → r [v] H Q)
    (hg : Gl X nm := by rfl) (hn : nm ≠ "__name__" := by decide) (hdb : (nm == ("__debug__" : Str)) = false := by decide) (he : starEach (a :: []) X.env = (false, eval a X.env) :: starEach [] X.env := by rfl) (hpl : (backTo pos (starEach [] X.env)).any (·.1) = false := by rfl) :
    LX X env (.Call (.Name nm np) [a] [] pos) (ls (it E)) e' (fun k => f fun x p => (g x).bind fun y => k y p) :=
  fun C F H σs es σ k ω Q hK hl h hk q => tE.of X (pe_callB hcall hg hm hv (pa_cons (peC X) pa_nil he) hn hdb he hpl) (lo_run ha hG hK hl h hk fun x p v F' H' fp hk' h' rr => by
    obtain ⟨y, hy, hk'⟩ := bind_some hk'
    exact hr C.K F' H' fp v x y Q hK h'.sF hy rr fun t vs nt hu => q y p (.ref t) F' _ hk' (h'.newOw nt ⟨t, vs, [], rfl, upd_same, hu.zero, rfl⟩))
theorem lx_y1n {G : Env → Prop} {Ty : String} {r : List V → Hp → VK → Prop} {E : Enc β} {g : τ → List β} {f : (τ → P → Option Ω) → Option Ω} (hcall : CallR X (.type Ty) r) (hm : X.mg nm = none) (hv : bootBuiltins nm = some (.type Ty)) (ha : LO X G env a S e' f) (hG : ∀ p, G (e' p))
    (hr : ∀ K F H fp v x (Q : VK), K = X.K → Same F H → S.rel K F H fp v x → (∀ t vs, H t = none → RepAll K F vs ((g x).map E.enc) → Q (.ref t) (upd H t (.lst vs))) → r [v] H Q)
    (hg : Gl X nm := by rfl) (hn : nm ≠ "__name__" := by decide) (hdb : (nm == ("__debug__" : Str)) = false := by decide) (he : starEach (a :: []) X.env = (false, eval a X.env) :: starEach [] X.env := by rfl) (hpl : (backTo pos (starEach [] X.env)).any (·.1) = false := by rfl) :
    LX X env (.Call (.Name nm np) [a] [] pos) (ls (it E)) e' (fun k => f fun x p => k (g x) p) :=
  fun C F H σs es σ k ω Q hK hl h hk q => tE.of X (pe_callTy hcall hg hm hv (pa_cons (peC X) pa_nil he) hn hdb he hpl) (lo_run ha hG hK hl h hk fun x p v F' H' fp hk' h' rr =>
    hr C.K F' H' fp v x Q hK h'.sF rr fun t vs nt hu => q (g x) p (.ref t) F' _ hk' (h'.newOw nt ⟨t, vs, [], rfl, upd_same, hu.zero, rfl⟩))
/-- f(a, b) of two ints -/
theorem lx_b2I {id : String} {r : List V → Hp → VK → Prop} {g : Int → Int → Int} {e1 : P1 → Env} {e2 : P1 → P2 → Env} {fa : (Int → P1 → Option Ω) → Option Ω} {fb : P1 → (Int → P2 → Option Ω) → Option Ω} (hcall : CallR X (.builtin id) r) (hr : ∀ i j H (Q : VK), Q (.int (g i j)) H → r [.int i, .int j] H Q) (hm : X.mg nm = none) (hv : bootBuiltins nm = some (.builtin id))
    (ha : LX X env a (it eI) e1 fa) (hb : ∀ p1, LX X (e1 p1) b (it eI) (e2 p1) (fb p1)) (hg : Gl X nm := by rfl) (hn : nm ≠ "__name__" := by decide) (hdb : (nm == ("__debug__" : Str)) = false := by decide)
    (he : starEach [a, b] X.env = (false, eval a X.env) :: starEach [b] X.env := by rfl) (he2 : starEach [b] X.env = (false, eval b X.env) :: starEach [] X.env := by rfl) (hpl : (backTo pos (starEach [b] X.env)).any (·.1) = false := by rfl) :
    LX X env (.Call (.Name nm np) [a, b] [] pos) (it eI) (fun p : P1 × P2 => e2 p.1 p.2) (fun k => fa fun x p1 => fb p1 fun y p2 => k (g x y) (p1, p2)) :=
  fun C F H σs es σ k ω Q hK hl h hk q => tE.of X (pe_callB hcall hg hm hv (pa_cons (peC X) (pa_cons (peC X) pa_nil he2) he) hn hdb he hpl) (op2_run (lo_of ha) (fun p1 => lo_of (hb p1)) (fun _ _ => trivial) (fun _ _ => trivial) hK hl h hk
    fun x p1 y p2 v u F' H' fp fq hk' h' r1 r2 => by
      obtain ⟨_, r1⟩ := r1
      obtain ⟨_, r2⟩ := r2
      cases r1; cases r2
      exact hr x y H' Q (q _ (p1, p2) _ F' H' hk' (h'.pushSh (.int _))))
section
variable {G : Env → Prop} {fI : (Int → P → Option Ω) → Option Ω} {f : (τ → P → Option Ω) → Option Ω} {g : τ → List α} {Ea : Enc α}
theorem lx_abs (hm : X.mg "abs" = none) (ha : LX X env a (it eI) e' fI) (hg : Gl X "abs" := by rfl) (he : starEach (a :: []) X.env = (false, eval a X.env) :: starEach [] X.env := by rfl) (hpl : (backTo pos (starEach [] X.env)).any (·.1) = false := by rfl) :
    LX X env (.Call (.Name "abs" np) [a] [] pos) (it eI) e' (fun k => fI fun x p => k (if x < 0 then -x else x) p) :=
  lx_b1t (E := eI) (g := fun x : Int => if x < 0 then -x else x) call_abs hm boot_abs (lo_of ha) (fun _ => trivial) (fun K F H fp v x Q _ _ r q => by obtain ⟨_, r⟩ := r; cases r; exact ⟨x, rfl, q _ (.int _)⟩) hg (by decide) (by decide) he hpl
theorem lx_int1 (hm : X.mg "int" = none) (ha : LX X env a (it eI) e' fI) (hg : Gl X "int" := by rfl) (he : starEach (a :: []) X.env = (false, eval a X.env) :: starEach [] X.env := by rfl) (hpl : (backTo pos (starEach [] X.env)).any (·.1) = false := by rfl) :
    LX X env (.Call (.Name "int" np) [a] [] pos) (it eI) e' (fun k => fI fun x p => k x p) :=
  lx_y1t (E := eI) (g := fun x : Int => x) call_int1 hm PyProof.Rows.boot_int (lo_of ha) (fun _ => trivial) (fun K F H fp v x Q _ _ r q => by obtain ⟨_, r⟩ := r; cases r; exact .inl ⟨x, rfl, q _ (.int _)⟩) hg (by decide) (by decide) he hpl
theorem lx_intB {fB : (Bool → P → Option Ω) → Option Ω} (hm : X.mg "int" = none) (ha : LX X env a (it eB) e' fB) (hg : Gl X "int" := by rfl) (he : starEach (a :: []) X.env = (false, eval a X.env) :: starEach [] X.env := by rfl) (hpl : (backTo pos (starEach [] X.env)).any (·.1) = false := by rfl) :
    LX X env (.Call (.Name "int" np) [a] [] pos) (it eI) e' (fun k => fB fun x p => k (if x = true then 1 else 0) p) :=
  lx_y1t (E := eI) (g := fun x : Bool => if x = true then (1 : Int) else 0) call_int1 hm PyProof.Rows.boot_int (lo_of ha) (fun _ => trivial) (fun K F H fp v x Q _ _ r q => by obtain ⟨_, r⟩ := r; cases r; exact .inr ⟨x, rfl, q _ (.int _)⟩) hg (by decide) (by decide) he hpl
theorem lx_max2 {e1 : P1 → Env} {e2 : P1 → P2 → Env} {fa : (Int → P1 → Option Ω) → Option Ω} {fb : P1 → (Int → P2 → Option Ω) → Option Ω} (hc : X.calm = true) (hm : X.mg "max" = none) (ha : LX X env a (it eI) e1 fa) (hb : ∀ p1, LX X (e1 p1) b (it eI) (e2 p1) (fb p1)) (hg : Gl X "max" := by rfl)
    (he : starEach [a, b] X.env = (false, eval a X.env) :: starEach [b] X.env := by rfl) (he2 : starEach [b] X.env = (false, eval b X.env) :: starEach [] X.env := by rfl) (hpl : (backTo pos (starEach [b] X.env)).any (·.1) = false := by rfl) :
    LX X env (.Call (.Name "max" np) [a, b] [] pos) (it eI) (fun p : P1 × P2 => e2 p.1 p.2) (fun k => fa fun x p1 => fb p1 fun y p2 => k (max x y) (p1, p2)) :=
  lx_b2I (call_max2 hc) (fun i j H Q q => ⟨i, j, rfl, by rw [show (if j > i then j else i) = max i j by omega]; exact q⟩) hm boot_max ha hb hg (by decide) (by decide) he he2 hpl
theorem lx_min2 {e1 : P1 → Env} {e2 : P1 → P2 → Env} {fa : (Int → P1 → Option Ω) → Option Ω} {fb : P1 → (Int → P2 → Option Ω) → Option Ω} (hc : X.calm = true) (hm : X.mg "min" = none) (ha : LX X env a (it eI) e1 fa) (hb : ∀ p1, LX X (e1 p1) b (it eI) (e2 p1) (fb p1)) (hg : Gl X "min" := by rfl)
    (he : starEach [a, b] X.env = (false, eval a X.env) :: starEach [b] X.env := by rfl) (he2 : starEach [b] X.env = (false, eval b X.env) :: starEach [] X.env := by rfl) (hpl : (backTo pos (starEach [b] X.env)).any (·.1) = false := by rfl) :
    LX X env (.Call (.Name "min" np) [a, b] [] pos) (it eI) (fun p : P1 × P2 => e2 p.1 p.2) (fun k => fa fun x p1 => fb p1 fun y p2 => k (min x y) (p1, p2)) :=
  lx_b2I (call_min2 hc) (fun i j H Q q => ⟨i, j, rfl, by rw [show (if j < i then j else i) = min i j by omega]; exact q⟩) hm boot_min ha hb hg (by decide) (by decide) he he2 hpl
theorem lx_len (hv : LVw S (it Ea) g) (hm : X.mg "len" = none) (ha : LO X G env a S e' f) (hG : ∀ p, G (e' p)) (hg : Gl X "len" := by rfl) (he : starEach (a :: []) X.env = (false, eval a X.env) :: starEach [] X.env := by rfl) (hpl : (backTo pos (starEach [] X.env)).any (·.1) = false := by rfl) :
    LX X env (.Call (.Name "len" np) [a] [] pos) (it eI) e' (fun k => f fun x p => k ((g x).length : Int) p) :=
  lx_b1t (E := eI) (g := fun x : τ => ((g x).length : Int)) call_len_seq hm PySem.boot_len ha hG (fun K F H fp v x Q hK s r q => by
    obtain ⟨p, vs, fps, rfl, h1, h2⟩ := hv.view s r
    have := h2.length
    exact ⟨p, vs, rfl, .inl (by rw [← hK]; exact h1), by rw [this]; exact q _ (.int _)⟩) hg (by decide) (by decide) he hpl
theorem lx_lenO {Sx : Stor α} (hv : LVw S Sx g) (hm : X.mg "len" = none) (ha : LO X G env a S e' f) (hG : ∀ p, G (e' p)) (hg : Gl X "len" := by rfl) (he : starEach (a :: []) X.env = (false, eval a X.env) :: starEach [] X.env := by rfl) (hpl : (backTo pos (starEach [] X.env)).any (·.1) = false := by rfl) :
    LX X env (.Call (.Name "len" np) [a] [] pos) (it eI) e' (fun k => f fun x p => k ((g x).length : Int) p) :=
  lx_b1t (E := eI) (g := fun x : τ => ((g x).length : Int)) call_len_seq hm PySem.boot_len ha hG (fun K F H fp v x Q hK s r q => by
    obtain ⟨p, vs, fps, rfl, h1, h2⟩ := hv.view s r
    have := h2.length
    exact ⟨p, vs, rfl, .inl (by rw [← hK]; exact h1), by rw [this]; exact q _ (.int _)⟩) hg (by decide) (by decide) he hpl
theorem lx_lenV (hv : TVw S (it Ea) g) (hm : X.mg "len" = none) (ha : LO X G env a S e' f) (hG : ∀ p, G (e' p)) (hg : Gl X "len" := by rfl) (he : starEach (a :: []) X.env = (false, eval a X.env) :: starEach [] X.env := by rfl) (hpl : (backTo pos (starEach [] X.env)).any (·.1) = false := by rfl) :
    LX X env (.Call (.Name "len" np) [a] [] pos) (it eI) e' (fun k => f fun x p => k ((g x).length : Int) p) :=
  lx_b1t (E := eI) (g := fun x : τ => ((g x).length : Int)) call_len_seq hm PySem.boot_len ha hG (fun K F H fp v x Q hK s r q => by
    obtain ⟨p, vs, fps, rfl, h1, h2⟩ := hv.view s r
    have := h2.length
    exact ⟨p, vs, rfl, .inr (by rw [← hK]; exact h1), by rw [this]; exact q _ (.int _)⟩) hg (by decide) (by decide) he hpl
theorem RepAll.ints {K : Fg} {F : Hp} : ∀ {vs : List V} {ns : List Int}, RepAll K F vs (ns.map eI.enc) → vs = ns.map V.int
  | [], [], _ => rfl
  | [], _ :: _, h => by cases h
  | _ :: _, [], h => by cases h
  | v :: vs, n :: ns, h => by
    cases h with
    | cons h1 h2 =>
      have h1' : Rep K F v (.int n) := h1
      cases h1'
      rw [RepAll.ints h2]; rfl
theorem RepAll.ofInts {K : Fg} {F : Hp} : ∀ (ns : List Int), RepAll K F (ns.map V.int) (ns.map eI.enc)
  | [] => .nil
  | n :: ns => .cons (.int n) (RepAll.ofInts ns)
theorem lx_sum {g : τ → List Int} (hc : X.calm = true) (hv : LVw S (it eI) g) (hm : X.mg "sum" = none) (ha : LO X G env a S e' f) (hG : ∀ p, G (e' p)) (hg : Gl X "sum" := by rfl) (he : starEach (a :: []) X.env = (false, eval a X.env) :: starEach [] X.env := by rfl) (hpl : (backTo pos (starEach [] X.env)).any (·.1) = false := by rfl) :
    LX X env (.Call (.Name "sum" np) [a] [] pos) (it eI) e' (fun k => f fun x p => k (g x).sum p) :=
  lx_b1t (E := eI) (g := fun x : τ => (g x).sum) (cr_sum hc) hm boot_sum ha hG (fun K F H fp v x Q hK s r q => by
    obtain ⟨p, vs, fps, rfl, h1, h2⟩ := hv.view s r
    have := h2.zero.2.ints
    subst this
    exact ⟨p, g x, rfl, by rw [← hK]; exact h1, q _ (.int _)⟩) hg (by decide) (by decide) he hpl
/-- the least, the greatest of a list of ints -/
def minI : List Int → Option Int
  | [] => none
  | x :: xs => some (xs.foldl min x)
def maxI : List Int → Option Int
  | [] => none
  | x :: xs => some (xs.foldl max x)
theorem foldl_min_le : ∀ (xs : List Int) (x : Int), xs.foldl min x ≤ x ∧ ∀ y ∈ xs, xs.foldl min x ≤ y
  | [], x => ⟨Int.le_refl x, fun _ m => nomatch m⟩
  | z :: xs, x => by
    obtain ⟨h1, h2⟩ := foldl_min_le xs (min x z)
    rw [List.foldl_cons]
    refine ⟨by omega, fun y m => ?_⟩
    rcases List.mem_cons.mp m with rfl | m
    · omega
    · exact h2 y m
theorem foldl_min_mem : ∀ (xs : List Int) (x : Int), xs.foldl min x = x ∨ xs.foldl min x ∈ xs
  | [], x => .inl rfl
  | z :: xs, x => by
    rw [List.foldl_cons]
    rcases foldl_min_mem xs (min x z) with h | h
    · by_cases c : x ≤ z
      · left; rw [h]; omega
      · right; rw [h, show min x z = z by omega]; exact List.mem_cons_self
    · exact .inr (List.mem_cons_of_mem _ h)
theorem foldl_max_le : ∀ (xs : List Int) (x : Int), x ≤ xs.foldl max x ∧ ∀ y ∈ xs, y ≤ xs.foldl max x
  | [], x => ⟨Int.le_refl x, fun _ m => nomatch m⟩
  | z :: xs, x => by
    obtain ⟨h1, h2⟩ := foldl_max_le xs (max x z)
    rw [List.foldl_cons]
    refine ⟨by omega, fun y m => ?_⟩
    rcases List.mem_cons.mp m with rfl | m
    · omega
    · exact h2 y m
theorem foldl_max_mem : ∀ (xs : List Int) (x : Int), xs.foldl max x = x ∨ xs.foldl max x ∈ xs
  | [], x => .inl rfl
  | z :: xs, x => by
    rw [List.foldl_cons]
    rcases foldl_max_mem xs (max x z) with h | h
    · by_cases c : z ≤ x
      · left; rw [h]; omega
      · right; rw [h, show max x z = z by omega]; exact List.mem_cons_self
    · exact .inr (List.mem_cons_of_mem _ h)
theorem minI_is {ns : List Int} {y m : Int} (h : minI ns = some y) (hm : m ∈ ns) (hle : ∀ z ∈ ns, m ≤ z) : m = y := by
  cases ns with
  | nil => cases h
  | cons x xs =>
    cases h
    obtain ⟨h1, h2⟩ := foldl_min_le xs x
    have a1 : xs.foldl min x ≤ m := by
      rcases List.mem_cons.mp hm with rfl | q
      · exact h1
      · exact h2 m q
    have a2 : m ≤ xs.foldl min x := by
      rcases foldl_min_mem xs x with q | q
      · rw [q]; exact hle x List.mem_cons_self
      · exact hle _ (List.mem_cons_of_mem _ q)
    omega
theorem maxI_is {ns : List Int} {y m : Int} (h : maxI ns = some y) (hm : m ∈ ns) (hle : ∀ z ∈ ns, z ≤ m) : m = y := by
  cases ns with
  | nil => cases h
  | cons x xs =>
    cases h
    obtain ⟨h1, h2⟩ := foldl_max_le xs x
    have a1 : m ≤ xs.foldl max x := by
      rcases List.mem_cons.mp hm with rfl | q
      · exact h1
      · exact h2 m q
    have a2 : xs.foldl max x ≤ m := by
      rcases foldl_max_mem xs x with q | q
      · rw [q]; exact hle x List.mem_cons_self
      · exact hle _ (List.mem_cons_of_mem _ q)
    omega
theorem lx_minI {g : τ → List Int} (hc : X.calm = true) (hv : LVw S (it eI) g) (hm : X.mg "min" = none) (ha : LO X G env a S e' f) (hG : ∀ p, G (e' p)) (hg : Gl X "min" := by rfl) (he : starEach (a :: []) X.env = (false, eval a X.env) :: starEach [] X.env := by rfl) (hpl : (backTo pos (starEach [] X.env)).any (·.1) = false := by rfl) :
    LX X env (.Call (.Name "min" np) [a] [] pos) (it eI) e' (fun k => f fun x p => (minI (g x)).bind fun y => k y p) :=
  lx_b1 (E := eI) (g := fun x : τ => minI (g x)) (cr_min hc) hm boot_min ha hG (fun K F H fp v x y Q hK s hy r q => by
    obtain ⟨p, vs, fps, rfl, h1, h2⟩ := hv.view s r
    have := h2.zero.2.ints
    subst this
    refine ⟨p, g x, rfl, by rw [← hK]; exact h1, ?_, fun m hmm hle => ?_⟩
    · cases hgx : g x with
      | nil => rw [hgx] at hy; cases hy
      | cons z zs => simp
    · rw [minI_is hy hmm hle]; exact q _ (.int _)) hg (by decide) (by decide) he hpl
theorem lx_maxI {g : τ → List Int} (hc : X.calm = true) (hv : LVw S (it eI) g) (hm : X.mg "max" = none) (ha : LO X G env a S e' f) (hG : ∀ p, G (e' p)) (hg : Gl X "max" := by rfl) (he : starEach (a :: []) X.env = (false, eval a X.env) :: starEach [] X.env := by rfl) (hpl : (backTo pos (starEach [] X.env)).any (·.1) = false := by rfl) :
    LX X env (.Call (.Name "max" np) [a] [] pos) (it eI) e' (fun k => f fun x p => (maxI (g x)).bind fun y => k y p) :=
  lx_b1 (E := eI) (g := fun x : τ => maxI (g x)) (cr_max hc) hm boot_max ha hG (fun K F H fp v x y Q hK s hy r q => by
    obtain ⟨p, vs, fps, rfl, h1, h2⟩ := hv.view s r
    have := h2.zero.2.ints
    subst this
    refine ⟨p, g x, rfl, by rw [← hK]; exact h1, ?_, fun m hmm hle => ?_⟩
    · cases hgx : g x with
      | nil => rw [hgx] at hy; cases hy
      | cons z zs => simp
    · rw [maxI_is hy hmm hle]; exact q _ (.int _)) hg (by decide) (by decide) he hpl
/-- list(xs) -/
theorem lx_listof (hv : LVw S (it Ea) g) (hm : X.mg "list" = none) (ha : LO X G env a S e' f) (hG : ∀ p, G (e' p)) (hg : Gl X "list" := by rfl) (he : starEach (a :: []) X.env = (false, eval a X.env) :: starEach [] X.env := by rfl) (hpl : (backTo pos (starEach [] X.env)).any (·.1) = false := by rfl) :
    LX X env (.Call (.Name "list" np) [a] [] pos) (ls (it Ea)) e' (fun k => f fun x p => k (g x) p) :=
  lx_y1n (E := Ea) (g := g) call_list_of hm PyProof.Rows.boot_list ha hG (fun K F H fp v x Q hK s r q => by
    obtain ⟨p, vs, fps, rfl, h1, h2⟩ := hv.view s r
    exact ⟨p, vs, rfl, .inl (by rw [← hK]; exact h1), fun l hl => q l vs hl h2.zero.2⟩) hg (by decide) (by decide) he hpl
end
end
end Z

set_option Elab.async false
set_option linter.all false
set_option maxRecDepth 100000
namespace Z
open PySem PySem.Spec PyProof.Rows L2

/-! ### kinds of data: depth, equality, order -/
structure Dt {τ : Type} (E : Enc τ) (n : Nat) : Prop where
  lay : ∀ x, (E.enc x).canLay0 = true
  dep : ∀ x, (E.enc x).depth ≤ n
theorem Dt.mono {τ : Type} {E : Enc τ} {n m : Nat} (h : Dt E n) (l : n ≤ m) : Dt E m := ⟨h.lay, fun x => Nat.le_trans (h.dep x) l⟩
theorem canLayAll_of : ∀ {ds : List PyData}, (∀ d ∈ ds, d.canLay0 = true) → PyData.canLayAll0 ds = true
  | [], _ => rfl
  | d :: ds, h => by
    unfold PyData.canLayAll0
    rw [h d List.mem_cons_self, canLayAll_of fun e m => h e (List.mem_cons_of_mem _ m)]; rfl
theorem depthAll_of : ∀ {ds : List PyData} {n : Nat}, (∀ d ∈ ds, d.depth ≤ n) → PyData.depthAll ds ≤ n
  | [], n, _ => by simp [PyData.depthAll]
  | d :: ds, n, h => by
    unfold PyData.depthAll
    have h1 := h d List.mem_cons_self
    have h2 := depthAll_of (ds := ds) (n := n) fun e m => h e (List.mem_cons_of_mem _ m)
    omega
theorem dtI : Dt eI 0 := ⟨fun _ => rfl, fun _ => by simp [eI, PyData.depth]⟩
theorem dtB : Dt eB 0 := ⟨fun _ => rfl, fun _ => by simp [eB, PyData.depth]⟩
theorem dtN : Dt eN 0 := ⟨fun _ => rfl, fun _ => by simp [eN, PyData.depth]⟩
theorem dtL {τ : Type} {E : Enc τ} {n : Nat} (h : Dt E n) : Dt (eL E) (n + 1) := ⟨fun x => by
  show PyData.canLay0 (.list _) = true
  rw [PyData.canLay0]
  exact canLayAll_of fun d m => by obtain ⟨y, _, rfl⟩ := List.mem_map.mp m; exact h.lay y, fun x => by
  show PyData.depth (.list _) ≤ n + 1
  rw [PyData.depth]
  have := depthAll_of (ds := x.map E.enc) (n := n) fun d m => by obtain ⟨y, _, rfl⟩ := List.mem_map.mp m; exact h.dep y
  omega⟩
theorem dtV {τ : Type} {E : Enc τ} {n : Nat} (h : Dt E n) : Dt (eV E) (n + 1) := ⟨fun x => by
  show PyData.canLay0 (.tuple _) = true
  rw [PyData.canLay0]
  exact canLayAll_of fun d m => by obtain ⟨y, _, rfl⟩ := List.mem_map.mp m; exact h.lay y, fun x => by
  show PyData.depth (.tuple _) ≤ n + 1
  rw [PyData.depth]
  have := depthAll_of (ds := x.map E.enc) (n := n) fun d m => by obtain ⟨y, _, rfl⟩ := List.mem_map.mp m; exact h.dep y
  omega⟩
theorem dt_tup {τ : Type} {E : Enc τ} {n : Nat} {ds : τ → List PyData} (he : ∀ x, E.enc x = .tuple (ds x)) (h1 : ∀ x, ∀ d ∈ ds x, d.canLay0 = true) (h2 : ∀ x, ∀ d ∈ ds x, d.depth ≤ n) : Dt E (n + 1) := ⟨fun x => by
  rw [he, PyData.canLay0]; exact canLayAll_of (h1 x), fun x => by
  rw [he, PyData.depth]
  have := depthAll_of (h2 x)
  omega⟩
section
variable {α β γ δ : Type} {A : Enc α} {B : Enc β} {G : Enc γ} {D : Enc δ} {n : Nat}
theorem dtT2 (a : Dt A n) (b : Dt B n) : Dt (eT2 A B) (n + 1) := dt_tup (ds := fun p => [A.enc p.1, B.enc p.2]) (fun _ => rfl) (fun x d m => by simp at m; rcases m with rfl | rfl; exact a.lay _; exact b.lay _) (fun x d m => by simp at m; rcases m with rfl | rfl; exact a.dep _; exact b.dep _)
theorem dtT3 (a : Dt A n) (b : Dt B n) (g : Dt G n) : Dt (eT3 A B G) (n + 1) := dt_tup (ds := fun p => [A.enc p.1, B.enc p.2.1, G.enc p.2.2]) (fun _ => rfl) (fun x d m => by simp at m; rcases m with rfl | rfl | rfl; exact a.lay _; exact b.lay _; exact g.lay _) (fun x d m => by simp at m; rcases m with rfl | rfl | rfl; exact a.dep _; exact b.dep _; exact g.dep _)
theorem dtT4 (a : Dt A n) (b : Dt B n) (g : Dt G n) (d4 : Dt D n) : Dt (eT4 A B G D) (n + 1) := dt_tup (ds := fun p => [A.enc p.1, B.enc p.2.1, G.enc p.2.2.1, D.enc p.2.2.2]) (fun _ => rfl) (fun x d m => by simp at m; rcases m with rfl | rfl | rfl | rfl; exact a.lay _; exact b.lay _; exact g.lay _; exact d4.lay _) (fun x d m => by simp at m; rcases m with rfl | rfl | rfl | rfl; exact a.dep _; exact b.dep _; exact g.dep _; exact d4.dep _)
end
/-- == of this kind is equality -/
structure Ev {τ : Type} [DecidableEq τ] (E : Enc τ) : Prop where
  eq : ∀ x y, PyData.eqv (E.enc x) (E.enc y) = decide (x = y)
theorem evI : Ev eI := ⟨fun x y => by simp [eI, PyData.eqv, Bool.beq_eq_decide_eq]⟩
theorem evB : Ev eB := ⟨fun x y => by simp [eB, PyData.eqv, Bool.beq_eq_decide_eq]⟩
theorem evN : Ev eN := ⟨fun x y => by simp [eN, PyData.eqv]⟩
theorem evS : Ev eS := ⟨fun x y => by simp only [eS, PyData.eqv]; exact Bool.beq_eq_decide_eq x y⟩
theorem eqvAll_map {τ : Type} [DecidableEq τ] {E : Enc τ} (h : Ev E) : ∀ (xs ys : List τ), PyData.eqvAll (xs.map E.enc) (ys.map E.enc) = decide (xs = ys)
  | [], [] => by simp [PyData.eqvAll]
  | [], _ :: _ => by simp [PyData.eqvAll]
  | _ :: _, [] => by simp [PyData.eqvAll]
  | x :: xs, y :: ys => by
    simp only [List.map_cons, PyData.eqvAll, h.eq, eqvAll_map h xs ys, List.cons.injEq, Bool.decide_and]
theorem evL {τ : Type} [DecidableEq τ] {E : Enc τ} (h : Ev E) : Ev (eL E) := ⟨fun x y => by simp only [eL, PyData.eqv]; exact eqvAll_map h x y⟩
theorem evV {τ : Type} [DecidableEq τ] {E : Enc τ} (h : Ev E) : Ev (eV E) := ⟨fun x y => by simp only [eV, PyData.eqv]; exact eqvAll_map h x y⟩
section
variable {α β γ δ : Type} [DecidableEq α] [DecidableEq β] [DecidableEq γ] [DecidableEq δ] {A : Enc α} {B : Enc β} {G : Enc γ} {D : Enc δ}
theorem evT2 (a : Ev A) (b : Ev B) : Ev (eT2 A B) := ⟨fun x y => by
  obtain ⟨x1, x2⟩ := x
  obtain ⟨y1, y2⟩ := y
  simp only [eT2, PyData.eqv, PyData.eqvAll, a.eq, b.eq, Bool.and_true, Prod.mk.injEq, Bool.decide_and]⟩
theorem evT3 (a : Ev A) (b : Ev B) (g : Ev G) : Ev (eT3 A B G) := ⟨fun x y => by
  obtain ⟨x1, x2, x3⟩ := x
  obtain ⟨y1, y2, y3⟩ := y
  simp only [eT3, PyData.eqv, PyData.eqvAll, a.eq, b.eq, g.eq, Bool.and_true, Prod.mk.injEq, Bool.decide_and]⟩
theorem evT4 (a : Ev A) (b : Ev B) (g : Ev G) (d : Ev D) : Ev (eT4 A B G D) := ⟨fun x y => by
  obtain ⟨x1, x2, x3, x4⟩ := x
  obtain ⟨y1, y2, y3, y4⟩ := y
  simp only [eT4, PyData.eqv, PyData.eqvAll, a.eq, b.eq, g.eq, d.eq, Bool.and_true, Prod.mk.injEq, Bool.decide_and]⟩
end
/-- an order: < of this kind -/
structure Od {τ : Type} (E : Enc τ) (lt : τ → τ → Bool) : Prop where
  lt : ∀ x y, PySem.W.dataLt (E.enc x) (E.enc y) = lt x y
  al : ∀ x y, PySem.W.alike (E.enc x) (E.enc y) = true
  nn : ∀ x, E.enc x ≠ .none
def ltI (x y : Int) : Bool := decide (x < y)
theorem odI : Od eI ltI := ⟨fun x y => by
  have h := PySem.W.minD_ints x [y]
  simp only [PySem.W.minD, List.map_cons, List.map_nil, List.foldl_cons, List.foldl_nil] at h
  have h2 := PySem.W.minD_ints y [x]
  simp only [PySem.W.minD, List.map_cons, List.map_nil, List.foldl_cons, List.foldl_nil] at h2
  show PySem.W.dataLt (.int x) (.int y) = _
  unfold ltI
  by_cases c : x < y
  · rw [decide_eq_true c]
    cases e : PySem.W.dataLt (.int x) (.int y) with
    | true => rfl
    | false =>
      rw [e] at h2
      simp at h2; omega
  · rw [decide_eq_false c]
    cases e : PySem.W.dataLt (.int x) (.int y) with
    | false => rfl
    | true =>
      rw [e] at h2
      simp at h2
      by_cases c2 : x = y
      · subst c2
        unfold PySem.W.dataLt at e
        rw [PyProof.Rows.lex_irrefl] at e
        cases e
      · omega, fun _ _ => rfl, fun _ h => by cases h⟩
section
variable {α β γ δ : Type} [DecidableEq α] [DecidableEq β] [DecidableEq γ] {A : Enc α} {B : Enc β} {G : Enc γ} {la : α → α → Bool} {lb : β → β → Bool} {lg : γ → γ → Bool}
theorem lt_cons {x y : PyData} {xs ys : List PyData} (h : PySem.W.alike x y = true) : PySem.W.dataLt (.tuple (x :: xs)) (.tuple (y :: ys)) = if PyData.eqv x y = true then PySem.W.dataLt (.tuple xs) (.tuple ys) else PySem.W.dataLt x y := by
  rw [PySem.W.dataLt_tuple, PySem.W.dataLt_tuple]
  cases e : PyData.eqv x y with
  | true => rw [if_pos rfl]; exact PySem.W.dataLt_all_yes h e
  | false => rw [if_neg Bool.false_ne_true]; exact PySem.W.dataLt_all_no h e
def lt2 (la : α → α → Bool) (lb : β → β → Bool) (x y : α × β) : Bool := if x.1 = y.1 then lb x.2 y.2 else la x.1 y.1
def lt3 (la : α → α → Bool) (lb : β → β → Bool) (lg : γ → γ → Bool) (x y : α × β × γ) : Bool := if x.1 = y.1 then (if x.2.1 = y.2.1 then lg x.2.2 y.2.2 else lb x.2.1 y.2.1) else la x.1 y.1
theorem lt_one {x y : PyData} (h : PySem.W.alike x y = true) : PySem.W.dataLt (.tuple [x]) (.tuple [y]) = PySem.W.dataLt x y := by
  rw [lt_cons h]
  cases e : PyData.eqv x y with
  | false => rw [if_neg Bool.false_ne_true]
  | true =>
    rw [if_pos rfl]
    have := (PySem.W.toks_eqv x y h).1 e
    unfold PySem.W.dataLt
    rw [this, PyProof.Rows.lex_irrefl, PyProof.Rows.lex_irrefl]
theorem odT2 (ea : Ev A) (a : Od A la) (b : Od B lb) : Od (eT2 A B) (lt2 la lb) := ⟨fun x y => by
  obtain ⟨x1, x2⟩ := x
  obtain ⟨y1, y2⟩ := y
  show PySem.W.dataLt (.tuple [A.enc x1, B.enc x2]) (.tuple [A.enc y1, B.enc y2]) = _
  rw [lt_cons (a.al _ _), lt_one (b.al _ _), ea.eq, a.lt, b.lt]
  unfold lt2
  simp only [decide_eq_true_eq], fun x y => by
  obtain ⟨x1, x2⟩ := x
  obtain ⟨y1, y2⟩ := y
  show PySem.W.alike (.tuple [A.enc x1, B.enc x2]) (.tuple [A.enc y1, B.enc y2]) = true
  simp only [PySem.W.alike, PySem.W.alikeAll, a.al, b.al, Bool.and_self], fun _ h => by cases h⟩
theorem odT3 (ea : Ev A) (eb : Ev B) (a : Od A la) (b : Od B lb) (g : Od G lg) : Od (eT3 A B G) (lt3 la lb lg) := ⟨fun x y => by
  obtain ⟨x1, x2, x3⟩ := x
  obtain ⟨y1, y2, y3⟩ := y
  show PySem.W.dataLt (.tuple [A.enc x1, B.enc x2, G.enc x3]) (.tuple [A.enc y1, B.enc y2, G.enc y3]) = _
  rw [lt_cons (a.al _ _), lt_cons (b.al _ _), lt_one (g.al _ _), ea.eq, eb.eq, a.lt, b.lt, g.lt]
  unfold lt3
  simp only [decide_eq_true_eq], fun x y => by
  obtain ⟨x1, x2, x3⟩ := x
  obtain ⟨y1, y2, y3⟩ := y
  show PySem.W.alike (.tuple [A.enc x1, B.enc x2, G.enc x3]) (.tuple [A.enc y1, B.enc y2, G.enc y3]) = true
  simp only [PySem.W.alike, PySem.W.alikeAll, a.al, b.al, g.al, Bool.and_self], fun _ h => by cases h⟩
end

/-! ### data as the layer's rules read them -/
mutual
theorem Rep.dp {K : Fg} {F H : Hp} (s : Same F H) : ∀ {v : V} {d : PyData}, Rep K F v d → d.canLay0 = true → Dp K H v d
  | _, _, .non, _ => .non
  | _, _, .bl b, _ => .bl b
  | _, _, .int i, _ => .int i
  | _, _, .str x, _ => .str x
  | _, _, .lst h r, c => .lst (SqL.of (s _ _ h)) (RepAll.dp s r (by rwa [PyData.canLay0] at c))
  | _, _, .tup h r, c => .tup (same_sqT s h) (RepAll.dp s r (by rwa [PyData.canLay0] at c))
  | _, _, .dK h r, c => by rw [PyData.canLay0] at c; cases c
  | _, _, .dT h r, c => by rw [PyData.canLay0] at c; cases c
theorem RepAll.dp {K : Fg} {F H : Hp} (s : Same F H) : ∀ {vs : List V} {ds : List PyData}, RepAll K F vs ds → PyData.canLayAll0 ds = true → DpAll K H vs ds
  | _, _, .nil, _ => .nil
  | _, _, .cons h r, c => by
    rw [PyData.canLayAll0] at c
    have c' := Bool.and_eq_true_iff.mp c
    exact .cons (Rep.dp s h c'.1) (RepAll.dp s r c'.2)
end
structure Dv {τ : Type} (S : Stor τ) (E : Enc τ) : Prop where
  dp : ∀ {K : Fg} {F H : Hp} {fp : List Addr} {v : V} {x : τ}, Same F H → (E.enc x).canLay0 = true → S.rel K F H fp v x → Dp K H v (E.enc x)
section
variable {τ τ1 τ2 α β : Type} {S : Stor τ} {S1 : Stor τ1} {S2 : Stor τ2} {E : Enc τ} {E1 : Enc τ1} {E2 : Enc τ2}
theorem dv_it : Dv (it E) E := ⟨fun s c r => r.2.dp s c⟩
theorem RelAll.dps {K : Fg} {H : Hp} {R : List Addr → V → τ → Prop} : ∀ {fp : List Addr} {vs : List V} {xs : List τ}, (∀ fq v x, R fq v x → (E.enc x).canLay0 = true → Dp K H v (E.enc x)) → PyData.canLayAll0 (xs.map E.enc) = true → RelAll R fp vs xs → DpAll K H vs (xs.map E.enc)
  | _, _, _, _, _, .nil => .nil
  | _, _, _, f, c, .cons h r => by
    rw [List.map_cons, PyData.canLayAll0] at c
    have c' := Bool.and_eq_true_iff.mp c
    exact .cons (f _ _ _ h c'.1) (RelAll.dps f c'.2 r)
theorem dv_ls (d : Dv S E) : Dv (ls S) (eL E) := ⟨fun {K F H fp v x} s c r => by
  obtain ⟨p, vs, fps, rfl, h, ra, rfl⟩ := r
  have c' : PyData.canLayAll0 (x.map E.enc) = true := by
    have : PyData.canLay0 (.list (x.map E.enc)) = true := c
    rwa [PyData.canLay0] at this
  exact .lst (SqL.of h) (ra.dps (fun _ _ _ q c => d.dp s c q) c')⟩
theorem shaped_of {d : PyData} (h1 : d.canLay0 = true) (h2 : d.depth ≤ 64) : SeqAt.shaped d = true := by
  unfold SeqAt.shaped
  rw [h1, decide_eq_true h2]; rfl
variable {X : Cx} {Ω : Type} {env : Env} {nm : Str} {pos np : Pos} {a b : Expr} {P P1 P2 : Type} {G : Env → Prop} {G1 : Env → Prop} {G2 : P1 → Env → Prop} {e' : P → Env} {e1 : P1 → Env} {e2 : P1 → P2 → Env} {fa : (τ1 → P1 → Option Ω) → Option Ω} {fb : P1 → (τ2 → P2 → Option Ω) → Option Ω}
/-- == of data of two kinds -/
theorem lc_eqD {n m : Nat} (hu : X.A.units + 64 < cLine) (d1 : Dv S1 E1) (d2 : Dv S2 E2) (t1 : Dt E1 n) (t2 : Dt E2 m) (ha : LO X G1 env a S1 e1 fa) (hb : ∀ p1, LO X (G2 p1) (e1 p1) b S2 (e2 p1) (fb p1)) (g1 : ∀ p1 p2, G1 (e2 p1 p2)) (g2 : ∀ p1 p2, G2 p1 (e2 p1 p2)) (hn : n ≤ 64 := by decide) (hm : m ≤ 64 := by decide) :
    LC X env .Eq a b (fun p : P1 × P2 => e2 p.1 p.2) (fun k => fa fun x p1 => fb p1 fun y p2 => k (PyData.eqv (E1.enc x) (E2.enc y)) (p1, p2)) :=
  lc_cmp (op_eqD hu) ha hb g1 g2 fun K F H fp fq v u x y Q hK s r1 r2 q => by
    subst hK
    exact ⟨_, _, d1.dp s (t1.lay x) r1, d2.dp s (t2.lay y) r2, shaped_of (t1.lay x) (Nat.le_trans (t1.dep x) hn), shaped_of (t2.lay y) (Nat.le_trans (t2.dep y) hm), q⟩
theorem lc_neD {n m : Nat} (hu : X.A.units + 64 < cLine) (d1 : Dv S1 E1) (d2 : Dv S2 E2) (t1 : Dt E1 n) (t2 : Dt E2 m) (ha : LO X G1 env a S1 e1 fa) (hb : ∀ p1, LO X (G2 p1) (e1 p1) b S2 (e2 p1) (fb p1)) (g1 : ∀ p1 p2, G1 (e2 p1 p2)) (g2 : ∀ p1 p2, G2 p1 (e2 p1 p2)) (hn : n ≤ 64 := by decide) (hm : m ≤ 64 := by decide) :
    LC X env .NotEq a b (fun p : P1 × P2 => e2 p.1 p.2) (fun k => fa fun x p1 => fb p1 fun y p2 => k (!PyData.eqv (E1.enc x) (E2.enc y)) (p1, p2)) :=
  lc_cmp (op_neD hu) ha hb g1 g2 fun K F H fp fq v u x y Q hK s r1 r2 q => by
    subst hK
    exact ⟨_, _, d1.dp s (t1.lay x) r1, d2.dp s (t2.lay y) r2, shaped_of (t1.lay x) (Nat.le_trans (t1.dep x) hn), shaped_of (t2.lay y) (Nat.le_trans (t2.dep y) hm), q⟩
/-- .. of any data, with a check -/
theorem lc_eqC (hu : X.A.units + 64 < cLine) (d1 : Dv S1 E1) (d2 : Dv S2 E2) (ha : LO X G1 env a S1 e1 fa) (hb : ∀ p1, LO X (G2 p1) (e1 p1) b S2 (e2 p1) (fb p1)) (g1 : ∀ p1 p2, G1 (e2 p1 p2)) (g2 : ∀ p1 p2, G2 p1 (e2 p1 p2)) :
    LC X env .Eq a b (fun p : P1 × P2 => e2 p.1 p.2) (fun k => fa fun x p1 => fb p1 fun y p2 => ck (SeqAt.shaped (E1.enc x) && SeqAt.shaped (E2.enc y)) (k (PyData.eqv (E1.enc x) (E2.enc y)) (p1, p2))) :=
  lc_cmpC (c := fun x y => SeqAt.shaped (E1.enc x) && SeqAt.shaped (E2.enc y)) (op_eqD hu) ha hb g1 g2 fun K F H fp fq v u x y Q hK s hc r1 r2 q => by
    subst hK
    obtain ⟨c1, c2⟩ := Bool.and_eq_true_iff.mp hc
    exact ⟨_, _, d1.dp s (SeqAt.canLay_of_shaped c1) r1, d2.dp s (SeqAt.canLay_of_shaped c2) r2, c1, c2, q⟩
theorem lc_neC (hu : X.A.units + 64 < cLine) (d1 : Dv S1 E1) (d2 : Dv S2 E2) (ha : LO X G1 env a S1 e1 fa) (hb : ∀ p1, LO X (G2 p1) (e1 p1) b S2 (e2 p1) (fb p1)) (g1 : ∀ p1 p2, G1 (e2 p1 p2)) (g2 : ∀ p1 p2, G2 p1 (e2 p1 p2)) :
    LC X env .NotEq a b (fun p : P1 × P2 => e2 p.1 p.2) (fun k => fa fun x p1 => fb p1 fun y p2 => ck (SeqAt.shaped (E1.enc x) && SeqAt.shaped (E2.enc y)) (k (!PyData.eqv (E1.enc x) (E2.enc y)) (p1, p2))) :=
  lc_cmpC (c := fun x y => SeqAt.shaped (E1.enc x) && SeqAt.shaped (E2.enc y)) (op_neD hu) ha hb g1 g2 fun K F H fp fq v u x y Q hK s hc r1 r2 q => by
    subst hK
    obtain ⟨c1, c2⟩ := Bool.and_eq_true_iff.mp hc
    exact ⟨_, _, d1.dp s (SeqAt.canLay_of_shaped c1) r1, d2.dp s (SeqAt.canLay_of_shaped c2) r2, c1, c2, q⟩
theorem lc_eqT [DecidableEq τ1] {S2 : Stor τ1} {fb : P1 → (τ1 → P2 → Option Ω) → Option Ω} {n : Nat} (hu : X.A.units + 64 < cLine) (d1 : Dv S1 E1) (d2 : Dv S2 E1) (t : Dt E1 n) (ev : Ev E1) (ha : LO X G1 env a S1 e1 fa) (hb : ∀ p1, LO X (G2 p1) (e1 p1) b S2 (e2 p1) (fb p1)) (g1 : ∀ p1 p2, G1 (e2 p1 p2)) (g2 : ∀ p1 p2, G2 p1 (e2 p1 p2)) (hn : n ≤ 64 := by decide) :
    LC X env .Eq a b (fun p : P1 × P2 => e2 p.1 p.2) (fun k => fa fun x p1 => fb p1 fun y p2 => k (decide (x = y)) (p1, p2)) :=
  lc_cmp (op_eqD hu) ha hb g1 g2 fun K F H fp fq v u x y Q hK s r1 r2 q => by
    subst hK
    exact ⟨_, _, d1.dp s (t.lay x) r1, d2.dp s (t.lay y) r2, shaped_of (t.lay x) (Nat.le_trans (t.dep x) hn), shaped_of (t.lay y) (Nat.le_trans (t.dep y) hn), by rw [ev.eq]; exact q⟩
theorem lc_neT [DecidableEq τ1] {S2 : Stor τ1} {fb : P1 → (τ1 → P2 → Option Ω) → Option Ω} {n : Nat} (hu : X.A.units + 64 < cLine) (d1 : Dv S1 E1) (d2 : Dv S2 E1) (t : Dt E1 n) (ev : Ev E1) (ha : LO X G1 env a S1 e1 fa) (hb : ∀ p1, LO X (G2 p1) (e1 p1) b S2 (e2 p1) (fb p1)) (g1 : ∀ p1 p2, G1 (e2 p1 p2)) (g2 : ∀ p1 p2, G2 p1 (e2 p1 p2)) (hn : n ≤ 64 := by decide) :
    LC X env .NotEq a b (fun p : P1 × P2 => e2 p.1 p.2) (fun k => fa fun x p1 => fb p1 fun y p2 => k (!decide (x = y)) (p1, p2)) :=
  lc_cmp (op_neD hu) ha hb g1 g2 fun K F H fp fq v u x y Q hK s r1 r2 q => by
    subst hK
    exact ⟨_, _, d1.dp s (t.lay x) r1, d2.dp s (t.lay y) r2, shaped_of (t.lay x) (Nat.le_trans (t.dep x) hn), shaped_of (t.lay y) (Nat.le_trans (t.dep y) hn), by rw [ev.eq]; exact q⟩
/-- is None, is not None -/
def isNone (d : PyData) : Bool := match d with
  | .none => true
  | _ => false
theorem enc_none {v : V} {K : Fg} {F : Hp} {d : PyData} (h : Rep K F v d) : decide (v = .non) = isNone d := by
  cases h <;> simp [isNone]
theorem lc_isN {fp1 : (τ1 → P1 → Option Ω) → Option Ω} {j : Nat} {cp : Pos} (ha : LX X env a (it E1) e1 fp1) : LC X env .Is a (.Constant .none j cp) (fun p : P1 × Unit => e1 p.1) (fun k => fp1 fun x p1 => k (isNone (E1.enc x)) (p1, ())) :=
  lc_cmp (g := fun x _ => isNone (E1.enc x)) op_isN (lo_of ha) (fun p1 => lo_of (lx_non (env := e1 p1))) (fun _ _ => trivial) (fun _ _ => trivial) fun K F H fp fq v u x y Q hK s r1 r2 q => by
    obtain ⟨_, r1⟩ := r1
    obtain ⟨_, r2⟩ := r2
    have r2' : Rep K F u .none := r2
    cases r2'
    exact ⟨rfl, by rw [enc_none r1]; exact q⟩
theorem lc_notN {fp1 : (τ1 → P1 → Option Ω) → Option Ω} {j : Nat} {cp : Pos} (ha : LX X env a (it E1) e1 fp1) : LC X env .IsNot a (.Constant .none j cp) (fun p : P1 × Unit => e1 p.1) (fun k => fp1 fun x p1 => k (!isNone (E1.enc x)) (p1, ())) :=
  lc_cmp (g := fun x _ => !isNone (E1.enc x)) op_notN (lo_of ha) (fun p1 => lo_of (lx_non (env := e1 p1))) (fun _ _ => trivial) (fun _ _ => trivial) fun K F H fp fq v u x y Q hK s r1 r2 q => by
    obtain ⟨_, r1⟩ := r1
    obtain ⟨_, r2⟩ := r2
    have r2' : Rep K F u .none := r2
    cases r2'
    exact ⟨rfl, by rw [enc_none r1]; exact q⟩

/-! ### min, max, sorted of lists of data -/
def rMinD (K : Fg) : List V → Hp → VK → Prop := fun vs H Q => ∃ (p : Addr) (its : List V) (x : PyData) (xs : List PyData), vs = [.ref p] ∧ SqL K H p its ∧ DpAll K H its (x :: xs) ∧ PyData.canLayAll0 (x :: xs) = true ∧ PySem.W.AlikeAll (x :: xs) ∧ PyData.depthAll (x :: xs) ≤ 60 ∧
  ∀ (i : Nat) (v : V), its[i]? = some v → (x :: xs)[i]? = some (PySem.W.minD x xs) → Q v H
def rMaxD (K : Fg) : List V → Hp → VK → Prop := fun vs H Q => ∃ (p : Addr) (its : List V) (x : PyData) (xs : List PyData), vs = [.ref p] ∧ SqL K H p its ∧ DpAll K H its (x :: xs) ∧ PyData.canLayAll0 (x :: xs) = true ∧ PySem.W.AlikeAll (x :: xs) ∧ PyData.depthAll (x :: xs) ≤ 60 ∧
  ∀ (i : Nat) (v : V), its[i]? = some v → (x :: xs)[i]? = some (PySem.W.maxD x xs) → Q v H
theorem canLay_get : ∀ {ds : List PyData} {i : Nat} {d : PyData}, PyData.canLayAll0 ds = true → ds[i]? = some d → d.canLay0 = true
  | [], _, _, _, e => by simp at e
  | d :: ds, 0, _, c, e => by
    rw [PyData.canLayAll0] at c
    simp at e; subst e
    exact (Bool.and_eq_true_iff.mp c).1
  | d :: ds, i + 1, _, c, e => by
    rw [PyData.canLayAll0] at c
    exact canLay_get (Bool.and_eq_true_iff.mp c).2 (by simpa using e)
theorem readsAll_get {h : Heap} : ∀ {us : List Value} {ds : List PyData} {as : List Addr} {i : Nat} {u : Value}, ReadsAll h us ds as → us[i]? = some u → ∃ d bs, ds[i]? = some d ∧ Reads h u d bs
  | _, _, _, _, _, .nil, e => by simp at e
  | _, _, _, 0, _, .cons r _, e => by simp at e; subst e; exact ⟨_, _, rfl, r⟩
  | _, _, _, i + 1, _, .cons _ r, e => by
    obtain ⟨d, bs, h1, h2⟩ := readsAll_get (i := i) r (by simpa using e)
    exact ⟨d, bs, by simpa using h1, h2⟩
theorem cr_minD (hc : X.calm = true) (hu : X.A.units + 64 < cLine) : CallR X (.builtin "min") (rMinD X.K) := by
  intro pins s σ H vs us Q I r h
  obtain ⟨p, its, x, xs, rfl, hs, hd, hl0, hal, hdep, q⟩ := h
  obtain ⟨uts, rv, pl, hz⟩ := I.list hs
  rw [Vals.ref1 r]
  obtain ⟨as, hr⟩ := Dp.readsAll I (x :: xs) its uts hd rv
  refine PySem.W.min_list_data (I.ok.hd hc) pl.isList hr hal (by omega) fun i u h' tk bs hi hr' hk => ?_
  have hi' : uts[i]? = some u := by simpa using hi
  obtain ⟨d, cs, e1, r1⟩ := readsAll_get hr hi'
  have r1' := PyProof.Rows.Reads.keeps hk r1
  have e2 : d = PySem.W.minD x xs := PySem.SeqAt.Reads.unique d _ u _ _ (canLay_get hl0 e1) r1' hr'
  have hlen := rv.length
  have hi2 : i < its.length := by
    have := (List.getElem?_eq_some_iff.mp hi').1
    omega
  obtain ⟨w, hw, rw'⟩ := Vals.get rv (List.getElem?_eq_getElem hi2)
  rw [hi'] at hw; cases hw
  exact ⟨_, H, I.kept hk, rw', q i _ (List.getElem?_eq_getElem hi2) (by rw [e1, e2])⟩
theorem cr_maxD (hc : X.calm = true) (hu : X.A.units + 64 < cLine) : CallR X (.builtin "max") (rMaxD X.K) := by
  intro pins s σ H vs us Q I r h
  obtain ⟨p, its, x, xs, rfl, hs, hd, hl0, hal, hdep, q⟩ := h
  obtain ⟨uts, rv, pl, hz⟩ := I.list hs
  rw [Vals.ref1 r]
  obtain ⟨as, hr⟩ := Dp.readsAll I (x :: xs) its uts hd rv
  refine PySem.W.max_list_data (I.ok.hd hc) pl.isList hr hal (by omega) fun i u h' tk bs hi hr' hk => ?_
  have hi' : uts[i]? = some u := by simpa using hi
  obtain ⟨d, cs, e1, r1⟩ := readsAll_get hr hi'
  have r1' := PyProof.Rows.Reads.keeps hk r1
  have e2 : d = PySem.W.maxD x xs := PySem.SeqAt.Reads.unique d _ u _ _ (canLay_get hl0 e1) r1' hr'
  have hlen := rv.length
  have hi2 : i < its.length := by
    have := (List.getElem?_eq_some_iff.mp hi').1
    omega
  obtain ⟨w, hw, rw'⟩ := Vals.get rv (List.getElem?_eq_getElem hi2)
  rw [hi'] at hw; cases hw
  exact ⟨_, H, I.kept hk, rw', q i _ (List.getElem?_eq_getElem hi2) (by rw [e1, e2])⟩
/-- the first least, the first greatest, by < -/
def minB {α : Type} (lt : α → α → Bool) : List α → Option α
  | [] => none
  | x :: xs => some (xs.foldl (fun a y => if lt y a = true then y else a) x)
def maxB {α : Type} (lt : α → α → Bool) : List α → Option α
  | [] => none
  | x :: xs => some (xs.foldl (fun a y => if lt a y = true then y else a) x)
theorem minD_enc {E : Enc α} {lt : α → α → Bool} (od : Od E lt) : ∀ (xs : List α) (x : α), PySem.W.minD (E.enc x) (xs.map E.enc) = E.enc (xs.foldl (fun a y => if lt y a = true then y else a) x)
  | [], x => rfl
  | y :: xs, x => by
    show List.foldl _ (if PySem.W.dataLt (E.enc y) (E.enc x) = true then E.enc y else E.enc x) (xs.map E.enc) = _
    rw [od.lt, List.foldl_cons]
    have := minD_enc od xs (if lt y x = true then y else x)
    unfold PySem.W.minD at this
    rw [← this]
    congr 1
    cases lt y x <;> simp
theorem maxD_enc {E : Enc α} {lt : α → α → Bool} (od : Od E lt) : ∀ (xs : List α) (x : α), PySem.W.maxD (E.enc x) (xs.map E.enc) = E.enc (xs.foldl (fun a y => if lt a y = true then y else a) x)
  | [], x => rfl
  | y :: xs, x => by
    show List.foldl _ (if PySem.W.dataLt (E.enc x) (E.enc y) = true then E.enc y else E.enc x) (xs.map E.enc) = _
    rw [od.lt, List.foldl_cons]
    have := maxD_enc od xs (if lt x y = true then y else x)
    unfold PySem.W.maxD at this
    rw [← this]
    congr 1
    cases lt x y <;> simp
theorem od_all {E : Enc α} {lt : α → α → Bool} (od : Od E lt) (xs : List α) : PySem.W.AlikeAll (xs.map E.enc) := ⟨fun x hx y hy => by
  obtain ⟨a, _, rfl⟩ := List.mem_map.mp hx
  obtain ⟨b, _, rfl⟩ := List.mem_map.mp hy
  exact od.al a b, fun x hx => by
  obtain ⟨a, _, rfl⟩ := List.mem_map.mp hx
  exact od.nn a⟩
section
variable {E : Enc α} {lt : α → α → Bool} {g : τ → List α} {f : (τ → P → Option Ω) → Option Ω} {n : Nat}
theorem dts {E : Enc α} (dt : Dt E n) (xs : List α) : PyData.canLayAll0 (xs.map E.enc) = true ∧ PyData.depthAll (xs.map E.enc) ≤ n :=
  ⟨canLayAll_of fun d m => by obtain ⟨y, _, rfl⟩ := List.mem_map.mp m; exact dt.lay y, depthAll_of fun d m => by obtain ⟨y, _, rfl⟩ := List.mem_map.mp m; exact dt.dep y⟩
theorem lx_minD (hc : X.calm = true) (hu : X.A.units + 64 < cLine) (od : Od E lt) (dt : Dt E n) (hv : LVw S (it E) g) (hm : X.mg "min" = none) (ha : LO X G env a S e' f) (hG : ∀ p, G (e' p)) (hn : n ≤ 60 := by decide) (hg : Gl X "min" := by rfl) (he : starEach (a :: []) X.env = (false, eval a X.env) :: starEach [] X.env := by rfl) (hpl : (backTo pos (starEach [] X.env)).any (·.1) = false := by rfl) :
    LX X env (.Call (.Name "min" np) [a] [] pos) (it E) e' (fun k => f fun x p => (minB lt (g x)).bind fun y => k y p) :=
  lx_b1 (E := E) (g := fun x : τ => minB lt (g x)) (cr_minD hc hu) hm boot_min ha hG (fun K F H fp v x y Q hK s hy r q => by
    subst hK
    obtain ⟨p, vs, fps, rfl, h1, h2⟩ := hv.view s r
    have rp := h2.zero.2
    cases hgx : g x with
    | nil => rw [hgx] at hy; cases hy
    | cons z zs =>
      rw [hgx] at hy rp
      have hy' : y = zs.foldl (fun a y => if lt y a = true then y else a) z := (Option.some.inj hy).symm
      have hd := dts dt (z :: zs)
      refine ⟨p, vs, E.enc z, zs.map E.enc, rfl, h1, rp.dp s hd.1, hd.1, od_all od (z :: zs), Nat.le_trans hd.2 hn, fun i v hi hv => ?_⟩
      rw [minD_enc od, ← hy'] at hv
      obtain ⟨w, hw, rr⟩ := rp.get (i := i) (d := E.enc y) (by rw [← hv]; rfl)
      rw [hi] at hw; cases hw
      exact q _ rr) hg (by decide) (by decide) he hpl
theorem lx_maxD (hc : X.calm = true) (hu : X.A.units + 64 < cLine) (od : Od E lt) (dt : Dt E n) (hv : LVw S (it E) g) (hm : X.mg "max" = none) (ha : LO X G env a S e' f) (hG : ∀ p, G (e' p)) (hn : n ≤ 60 := by decide) (hg : Gl X "max" := by rfl) (he : starEach (a :: []) X.env = (false, eval a X.env) :: starEach [] X.env := by rfl) (hpl : (backTo pos (starEach [] X.env)).any (·.1) = false := by rfl) :
    LX X env (.Call (.Name "max" np) [a] [] pos) (it E) e' (fun k => f fun x p => (maxB lt (g x)).bind fun y => k y p) :=
  lx_b1 (E := E) (g := fun x : τ => maxB lt (g x)) (cr_maxD hc hu) hm boot_max ha hG (fun K F H fp v x y Q hK s hy r q => by
    subst hK
    obtain ⟨p, vs, fps, rfl, h1, h2⟩ := hv.view s r
    have rp := h2.zero.2
    cases hgx : g x with
    | nil => rw [hgx] at hy; cases hy
    | cons z zs =>
      rw [hgx] at hy rp
      have hy' : y = zs.foldl (fun a y => if lt a y = true then y else a) z := (Option.some.inj hy).symm
      have hd := dts dt (z :: zs)
      refine ⟨p, vs, E.enc z, zs.map E.enc, rfl, h1, rp.dp s hd.1, hd.1, od_all od (z :: zs), Nat.le_trans hd.2 hn, fun i v hi hv => ?_⟩
      rw [maxD_enc od, ← hy'] at hv
      obtain ⟨w, hw, rr⟩ := rp.get (i := i) (d := E.enc y) (by rw [← hv]; rfl)
      rw [hi] at hw; cases hw
      exact q _ rr) hg (by decide) (by decide) he hpl
end
end
end Z

set_option Elab.async false
set_option linter.all false
set_option maxRecDepth 100000
namespace Z
open PySem PySem.Spec PyProof.Rows L2

/-- a slice, as the layer cuts it -/
def cutL {α : Type} (xs : List α) (lo hi : Option Int) : List α := (xs.drop (HT.sIx xs.length 0 lo)).take (HT.sIx xs.length xs.length hi - HT.sIx xs.length 0 lo)
section
variable {X : Cx} {Ω : Type} {env : Env} {nm : Str} {pos np sp : Pos} {a b c : Expr} {P P1 P2 P3 : Type} {τ τ1 τ2 α β : Type} {S : Stor τ} {S1 : Stor τ1} {S2 : Stor τ2} {E : Enc α} {Eb : Enc β} {G : Env → Prop} {G1 : Env → Prop} {G2 : P1 → Env → Prop} {e' : P → Env} {e1 : P1 → Env} {e2 : P1 → P2 → Env} {e3 : P1 → P2 → P3 → Env}
  {fa : (τ1 → P1 → Option Ω) → Option Ω} {fb : P1 → (τ2 → P2 → Option Ω) → Option Ω} {g1 : τ1 → List α} {g2 : τ2 → List α}
/-- xs + ys -/
theorem lx_cat (hv1 : LVm S1 (it E) g1) (hv2 : LVm S2 (it E) g2) (ha : LO X G1 env a S1 e1 fa) (hb : ∀ p1, LO X (G2 p1) (e1 p1) b S2 (e2 p1) (fb p1)) (h1 : ∀ p1 p2, G1 (e2 p1 p2)) (h2 : ∀ p1 p2, G2 p1 (e2 p1 p2)) :
    LX X env (.BinOp a .Add b pos) (ls (it E)) (fun p : P1 × P2 => e2 p.1 p.2) (fun k => fa fun x p1 => fb p1 fun y p2 => ck (decide ((g1 x).length + (g2 y).length ≤ SZ)) (k (g1 x ++ g2 y) (p1, p2))) :=
  fun C F H σs es σ k ω Q hK hl h hk q => tE.of X (pe_op op_cat (peC X) (peC X)) (op2_run ha hb h1 h2 hK hl h hk fun x p1 y p2 v u F' H' fp fq hk' h' r1 r2 => by
    obtain ⟨hc, hk'⟩ := ck_some hk'
    obtain ⟨p, vs, fps, rfl, l1, ra⟩ := hv1.view h'.sF r1
    obtain ⟨p', ws, fqs, rfl, l2, rb⟩ := hv2.view h'.sF r2
    have hc' := of_decide_eq_true hc
    have n1 := ra.length
    have n2 := rb.length
    refine ⟨p, p', vs, ws, rfl, rfl, l1, l2, by rw [SZ_eq]; omega, fun t nt => ?_⟩
    refine q (g1 x ++ g2 y) (p1, p2) (.ref t) F' _ hk' (h'.newOw nt ⟨t, vs ++ ws, [], rfl, upd_same, ?_, rfl⟩)
    have := ra.zero.2.app rb.zero.2
    rw [← List.map_append] at this
    exact this.zero)
theorem RepAll.cut {K : Fg} {F : Hp} {vs : List V} {xs : List α} (lo hi : Option Int) (h : RepAll K F vs (xs.map E.enc)) : RepAll K F (cutV vs lo hi) ((cutL xs lo hi).map E.enc) := by
  have hl : vs.length = xs.length := by have := h.length; simpa using this
  unfold cutV cutL
  rw [hl, List.map_take, List.map_drop]
  exact (h.drop _).take _
/-- xs[i:j] -/
theorem lx_sl2 {fi : P1 → (Int → P2 → Option Ω) → Option Ω} {fj : P1 → P2 → (Int → P3 → Option Ω) → Option Ω} (hv : LVw S1 (it E) g1) (ha : LX X env a S1 e1 fa) (hi : ∀ p1, LX X (e1 p1) b (it eI) (e2 p1) (fi p1)) (hj : ∀ p1 p2, LX X (e2 p1 p2) c (it eI) (e3 p1 p2) (fj p1 p2)) :
    LX X env (.Subscript a (.Slice (some b) (some c) none sp) pos) (ls (it E)) (fun p : P1 × P2 × P3 => e3 p.1 p.2.1 p.2.2) (fun k => fa fun x p1 => fi p1 fun i p2 => fj p1 p2 fun j p3 => k (cutL (g1 x) (some i) (some j)) (p1, p2, p3)) :=
  fun C F H σs es σ k ω Q hK hl h hk q => tE.of X (pe_slice sl_list (peC X) (po_some (peC X)) (po_some (peC X))) (ha C F H σs es σ _ ω _ hK hl h hk fun x p1 v F1 H1 hk1 h1 => by
    refine hi p1 C F1 H1 (some v :: σs) (.st none τ1 S1 x :: es) σ _ ω _ hK (by simp [hl]) h1 hk1 fun i p2 u F2 H2 hk2 h2 => ?_
    have hu : u = .int i := by
      obtain ⟨v', fp, e1, r⟩ := h2.look (i := 0) rfl
      simp at e1; subst e1
      obtain ⟨_, r⟩ := r
      cases r; rfl
    subst hu
    refine ⟨i, rfl, hj p1 p2 C F2 H2 (some v :: σs) (.st none τ1 S1 x :: es) σ _ ω _ hK (by simp [hl]) h2.pop hk2 fun j p3 u F3 H3 hk3 h3 => ?_⟩
    have hu : u = .int j := by
      obtain ⟨v', fp, e1, r⟩ := h3.look (i := 0) rfl
      simp at e1; subst e1
      obtain ⟨_, r⟩ := r
      cases r; rfl
    subst hu
    obtain ⟨v', fp, ee, r⟩ := ER.look (i := 0) (show ER C F3 H3 (some v :: (σs ++ σ)) (.st none τ1 S1 x :: (es ++ e3 p1 p2 p3)) from h3.pop) rfl
    simp at ee; subst ee
    obtain ⟨p, vs, fps, rfl, l1, ra⟩ := hv.view h3.sF r
    refine ⟨j, rfl, p, vs, rfl, by rw [← hK]; exact l1, fun t nt => ?_⟩
    exact q _ (p1, p2, p3) (.ref t) F3 _ hk3 (ER.newOw (show ER C F3 H3 (σs ++ σ) (es ++ e3 p1 p2 p3) from h3.pop.pop) nt ⟨t, _, [], rfl, upd_same, (ra.zero.2.cut (some i) (some j)).zero, rfl⟩))
/-- xs[i:] -/
theorem lx_slL {fi : P1 → (Int → P2 → Option Ω) → Option Ω} (hv : LVw S1 (it E) g1) (ha : LX X env a S1 e1 fa) (hi : ∀ p1, LX X (e1 p1) b (it eI) (e2 p1) (fi p1)) :
    LX X env (.Subscript a (.Slice (some b) none none sp) pos) (ls (it E)) (fun p : P1 × P2 => e2 p.1 p.2) (fun k => fa fun x p1 => fi p1 fun i p2 => k (cutL (g1 x) (some i) none) (p1, p2)) :=
  fun C F H σs es σ k ω Q hK hl h hk q => tE.of X (pe_slice sl_list (peC X) (po_some (peC X)) po_none) (op2_run (lo_of ha) (fun p1 => lo_of (hi p1)) (fun _ _ => trivial) (fun _ _ => trivial) (R := fun x y H => ∃ i, y = .int i ∧ rSlL X.K x (some i) none H Q) hK hl h hk
    (fun x p1 i p2 v u F' H' fp fq hk' h' r1 r2 => by
      obtain ⟨_, r2⟩ := r2
      cases r2
      obtain ⟨p, vs, fps, rfl, l1, ra⟩ := hv.view h'.sF r1
      exact ⟨i, rfl, p, vs, rfl, by rw [← hK]; exact l1, fun t nt => q _ (p1, p2) (.ref t) F' _ hk' (h'.newOw nt ⟨t, _, [], rfl, upd_same, (ra.zero.2.cut (some i) none).zero, rfl⟩)⟩))
/-- xs[:j] -/
theorem lx_slR {fi : P1 → (Int → P2 → Option Ω) → Option Ω} (hv : LVw S1 (it E) g1) (ha : LX X env a S1 e1 fa) (hi : ∀ p1, LX X (e1 p1) b (it eI) (e2 p1) (fi p1)) :
    LX X env (.Subscript a (.Slice none (some b) none sp) pos) (ls (it E)) (fun p : P1 × P2 => e2 p.1 p.2) (fun k => fa fun x p1 => fi p1 fun j p2 => k (cutL (g1 x) none (some j)) (p1, p2)) :=
  fun C F H σs es σ k ω Q hK hl h hk q => tE.of X (pe_slice sl_list (peC X) po_none (po_some (peC X))) (op2_run (lo_of ha) (fun p1 => lo_of (hi p1)) (fun _ _ => trivial) (fun _ _ => trivial) (R := fun x y H => ∃ i, y = .int i ∧ rSlL X.K x none (some i) H Q) hK hl h hk
    (fun x p1 i p2 v u F' H' fp fq hk' h' r1 r2 => by
      obtain ⟨_, r2⟩ := r2
      cases r2
      obtain ⟨p, vs, fps, rfl, l1, ra⟩ := hv.view h'.sF r1
      exact ⟨i, rfl, p, vs, rfl, by rw [← hK]; exact l1, fun t nt => q _ (p1, p2) (.ref t) F' _ hk' (h'.newOw nt ⟨t, _, [], rfl, upd_same, (ra.zero.2.cut none (some i)).zero, rfl⟩)⟩))

/-! ### sorted -/
def rSortD (K : Fg) : List V → Hp → VK → Prop := fun vs H Q => ∃ (p : Addr) (its : List V) (ds : List PyData), vs = [.ref p] ∧ SqL K H p its ∧ DpAll K H its ds ∧ PySem.W.AllAlike ds ∧ PySem.W.Sortable ds ∧ (∀ d ∈ ds, d.depth ≤ 60) ∧
  ∀ t, H t = none → Q (.ref t) (upd H t (.lst (((its.zip ds).mergeSort (PySem.W.dataLe false Prod.snd)).map Prod.fst)))
theorem eachIs_zip {its : List V} {ds : List PyData} {us : List Value} (h : Vals its us) : its.length = ds.length → PySem.W.EachIs (fun (u : Value) (p : V × PyData) => RelV p.1 u) us (its.zip ds) := by
  intro hl
  induction h generalizing ds with
  | nil => cases ds with
    | nil => exact .nil
    | cons d ds => simp at hl
  | cons r t ih => cases ds with
    | nil => simp at hl
    | cons d ds => exact .cons r (ih (by simpa using hl))
theorem eachIs_reads {h : Heap} {its : List V} {ds : List PyData} {us : List Value} {as : List Addr} (hr : ReadsAll h us ds as) (hl : its.length = ds.length) : PySem.W.EachIs (fun (u : Value) (p : V × PyData) => ∃ as, Reads h u p.2 as) us (its.zip ds) := by
  induction us generalizing its ds as with
  | nil => cases hr; cases its with
    | nil => exact .nil
    | cons _ _ => simp at hl
  | cons u us ih =>
    cases hr with
    | cons r1 r2 => cases its with
      | nil => simp at hl
      | cons v its => exact .cons ⟨_, r1⟩ (ih r2 (by simpa using hl))
theorem eachIs_vals {out : List Value} {ps : List (V × PyData)} (h : PySem.W.EachIs (fun (u : Value) (p : V × PyData) => RelV p.1 u) out ps) : Vals (ps.map Prod.fst) out := by
  induction h with
  | nil => exact .nil
  | cons r _ ih => exact .cons r ih
theorem dpAll_length {K : Fg} {H : Hp} : ∀ {vs : List V} {ds : List PyData}, DpAll K H vs ds → vs.length = ds.length
  | _, _, .nil => rfl
  | _, _, .cons _ r => congrArg (· + 1) (dpAll_length r)
theorem cr_sortD (hu : X.A.units + 64 < cLine) : CallR X (.builtin "sorted") (rSortD X.K) := by
  intro pins s σ H vs us Q I r h
  obtain ⟨p, its, ds, rfl, hs, hd, hal, hso, hdep, q⟩ := h
  obtain ⟨uts, rv, pl, hz⟩ := I.list hs
  rw [Vals.ref1 r]
  obtain ⟨as, hr⟩ := Dp.readsAll I ds its uts hd rv
  have hl := dpAll_length hd
  have hm : (its.zip ds).map Prod.snd = ds := by rw [List.map_snd_zip (by omega)]
  refine PySem.W.sorted_data (enc := Prod.snd) (bs := its.zip ds) (R := fun (u : Value) (p : V × PyData) => RelV p.1 u) pl.isList (eachIs_zip rv hl) (eachIs_reads hr hl) (by rw [hm]; exact hal) (by rw [hm]; exact hso) (by rw [List.length_zip]; omega) (fun b hb => ?_) fun out ho eo => ?_
  · have : b.2 ∈ ds := by rw [← hm]; exact List.mem_map_of_mem hb
    have := hdep _ this
    omega
  · obtain ⟨ep, he'⟩ := PyProof.Rows.sortedAll_at s.heap uts out.toArray
    have rv' := eachIs_vals eo
    have hlen : (((its.zip ds).mergeSort (PySem.W.dataLe false Prod.snd)).map Prod.fst).length ≤ sizeLine := by
      rw [List.length_map, List.length_mergeSort, List.length_zip]; omega
    exact ⟨.ref _, upd H (s.heap.objs.size + 1) (.lst (((its.zip ds).mergeSort (PySem.W.dataLe false Prod.snd)).map Prod.fst)), I.laid (t' := s.toks) (fun _ _ => PyProof.Rows.sortedAll_old) (Nat.le_succ _) ⟨hlen, out, ep, rv', he'⟩, rfl, q _ (I.hok.fresh (Nat.le_succ _))⟩
/-- sorted by <, equal ones as they stood -/
def sortB {α : Type} (lt : α → α → Bool) (xs : List α) : List α := xs.mergeSort fun x y => !lt y x
/-- tuples that are not empty, or no tuples -/
structure So (E : Enc α) : Prop where
  so : (∀ x, ∃ y r, E.enc x = .tuple (y :: r)) ∨ ∀ x, E.enc x ≠ .none ∧ ∀ r, E.enc x ≠ .tuple r
theorem soI : So eI := ⟨.inr fun _ => ⟨(fun h => by cases h), (fun _ h => by cases h)⟩⟩
theorem soT2 {A : Enc α} {B : Enc β} : So (eT2 A B) := ⟨.inl fun _ => ⟨_, _, rfl⟩⟩
theorem soT3 {γ : Type} {A : Enc α} {B : Enc β} {D : Enc γ} : So (eT3 A B D) := ⟨.inl fun _ => ⟨_, _, rfl⟩⟩
theorem soT4 {γ δ : Type} {A : Enc α} {B : Enc β} {D : Enc γ} {D' : Enc δ} : So (eT4 A B D D') := ⟨.inl fun _ => ⟨_, _, rfl⟩⟩
theorem zip_rep {K : Fg} {F : Hp} : ∀ {vs : List V} {xs : List α}, RepAll K F vs (xs.map E.enc) → (vs.zip (xs.map E.enc)) = (vs.zip xs).map fun p => (p.1, E.enc p.2)
  | [], _, _ => rfl
  | _ :: _, [], h => by cases h
  | v :: vs, x :: xs, h => by
    cases h with
    | cons h1 h2 =>
      show (v, E.enc x) :: vs.zip (xs.map E.enc) = (v, E.enc x) :: (vs.zip xs).map _
      rw [zip_rep h2]
theorem rep_zip {K : Fg} {F : Hp} : ∀ {vs : List V} {xs : List α}, RepAll K F vs (xs.map E.enc) → ∀ p ∈ vs.zip xs, Rep K F p.1 (E.enc p.2)
  | [], _, _, p, m => by simp at m
  | _ :: _, [], h, _, _ => by cases h
  | v :: vs, x :: xs, h, p, m => by
    cases h with
    | cons h1 h2 =>
      rcases List.mem_cons.mp m with rfl | m
      · exact h1
      · exact rep_zip h2 p m
theorem RepAll.of_pairs {K : Fg} {F : Hp} : ∀ (ps : List (V × α)), (∀ p ∈ ps, Rep K F p.1 (E.enc p.2)) → RepAll K F (ps.map Prod.fst) ((ps.map Prod.snd).map E.enc)
  | [], _ => .nil
  | p :: ps, h => .cons (h p List.mem_cons_self) (RepAll.of_pairs ps fun q m => h q (List.mem_cons_of_mem _ m))
theorem sort_pairs {K : Fg} {F : Hp} {lt : α → α → Bool} (od : Od E lt) {vs : List V} {xs : List α} (h : RepAll K F vs (xs.map E.enc)) :
    RepAll K F (((vs.zip (xs.map E.enc)).mergeSort (PySem.W.dataLe false Prod.snd)).map Prod.fst) ((sortB lt xs).map E.enc) := by
  have hl : vs.length = xs.length := by have := h.length; simpa using this
  have e0 : ((vs.zip xs).mergeSort fun p q => !lt q.2 p.2).map (fun p => (p.1, E.enc p.2)) = (vs.zip (xs.map E.enc)).mergeSort (PySem.W.dataLe false Prod.snd) := by
    rw [zip_rep h]
    refine PySem.W.sort_maps _ fun p _ q _ => ?_
    rw [PySem.W.dataLe_eq]
    show (!lt q.2 p.2) = !PySem.W.dataLt (E.enc q.2) (E.enc p.2)
    rw [od.lt]
  rw [← e0, List.map_map]
  have e1 : ((vs.zip xs).mergeSort fun p q => !lt q.2 p.2).map Prod.snd = sortB lt xs := by
    unfold sortB
    rw [PySem.W.sort_maps (s := fun x y => !lt y x) Prod.snd (fun p _ q _ => rfl), List.map_snd_zip (by omega)]
  rw [← e1]
  exact RepAll.of_pairs _ fun p m => rep_zip h p (List.mem_mergeSort.mp m)
theorem lx_sorted {lt : α → α → Bool} {n : Nat} {g : τ → List α} {f : (τ → P → Option Ω) → Option Ω} (hu : X.A.units + 64 < cLine) (od : Od E lt) (so : So E) (dt : Dt E n) (hv : LVw S (it E) g) (hm : X.mg "sorted" = none) (ha : LO X G env a S e' f) (hG : ∀ p, G (e' p)) (hn : n ≤ 60 := by decide) (hg : Gl X "sorted" := by rfl) (he : starEach (a :: []) X.env = (false, eval a X.env) :: starEach [] X.env := by rfl) (hpl : (backTo pos (starEach [] X.env)).any (·.1) = false := by rfl) :
    LX X env (.Call (.Name "sorted" np) [a] [] pos) (ls (it E)) e' (fun k => f fun x p => (some (sortB lt (g x))).bind fun y => k y p) :=
  lx_b1n (E := E) (g := fun x : τ => some (sortB lt (g x))) (cr_sortD hu) hm PyProof.Rows.boot_sorted ha hG (fun K F H fp v x y Q hK s hy r q => by
    subst hK
    cases hy
    obtain ⟨p, vs, fps, rfl, h1, h2⟩ := hv.view s r
    have rp := h2.zero.2
    have hd := dts dt (g x)
    refine ⟨p, vs, (g x).map E.enc, rfl, h1, rp.dp s hd.1, (od_all od (g x)).1, ?_, fun d m => by obtain ⟨y, _, rfl⟩ := List.mem_map.mp m; exact Nat.le_trans (dt.dep y) hn, fun t nt => q t _ nt (sort_pairs od rp)⟩
    rcases so.so with so | so
    · exact .inl fun d m => by obtain ⟨y, _, rfl⟩ := List.mem_map.mp m; exact so y
    · exact .inr fun d m => by obtain ⟨y, _, rfl⟩ := List.mem_map.mp m; exact so y) hg (by decide) (by decide) he hpl

/-! ### enumerate, zip -/
def enumL {α : Type} (xs : List α) : List (Int × α) := xs.zipIdx.map fun p => ((p.2 : Int), p.1)
theorem enumL_get {α : Type} (xs : List α) (i : Nat) : (enumL xs)[i]? = (xs[i]?).map fun x => ((i : Int), x) := by
  unfold enumL
  rw [List.getElem?_map, List.getElem?_zipIdx]
  cases xs[i]? <;> simp
theorem li_enum {f : (τ → P → Option Ω) → Option Ω} {g : τ → List α} {elts : List Expr} {kk : Nat} {tp p : Pos} (hg : Gl X "enumerate") (hm : X.mg "enumerate" = none) (hv : LVw S (it E) g) (h : LX X env a S e' f) (hs : starEach [a] X.env = [(false, eval a X.env)] := by rfl) (hs4 : starEach [a] X.env = (false, eval a X.env) :: starEach [] X.env := by rfl) :
    LI X env (.Tuple elts kk tp) (.Call (.Name "enumerate" p) [a] [] pos) (it (eT2 eI E)) e' (fun k => f fun x q => k (enumL (g x)) q) :=
  fun C F H σs es σ k ω R hK hl hr hk q => tI.of X (pi_enum hg hm (pa_cons (peC X) pa_nil hs4) hs) (h C F H σs es σ _ ω _ hK hl hr hk fun x p v F' H' hk' h' => by
    obtain ⟨v', fp, e1, r⟩ := h'.look (i := 0) rfl
    simp at e1; subst e1
    obtain ⟨p0, vs, fps, rfl, hs, ra⟩ := hv.view h'.sF r
    refine ⟨p0, vs, rfl, by rw [← hK]; exact hs, q (enumL (g x)) p (Ite X.K p0) F' H' [some (.ref p0)] [.st none τ S x] hk' h' ⟨rfl, fun i F2 H2 σ2 σb e2 eb hl2 h2 => ?_⟩⟩
    obtain ⟨v', fp', e1, r'⟩ := h2.look (i := e2.length + 0) (by rw [at_app _ rfl]; rfl)
    rw [at_app _ hl2] at e1
    simp at e1; subst e1
    obtain ⟨p1, ws, fps', e3, hs', ra'⟩ := hv.view h2.sF r'
    cases e3
    rw [hK] at hs'
    have rp := ra'.zero.2
    rw [enumL_get]
    refine ⟨fun y hy => ?_, fun hn => ?_⟩
    · cases hgi : (g x)[i]? with
      | none => rw [hgi] at hy; cases hy
      | some z =>
        rw [hgi] at hy
        cases hy
        obtain ⟨w, hw, rw'⟩ := rp.get (i := i) (d := E.enc z) (by rw [List.getElem?_map, hgi]; rfl)
        refine ⟨⟨ws, w, hs', hw⟩, fun v H' hy' => ?_⟩
        obtain ⟨T, w', rfl, nT, rfl, hy'⟩ := hy'
        have := hy' ws hs'
        rw [hw] at this; cases this
        refine ⟨upd F2 T (.tup [.int (i : Nat), w]), (h2.newF nT).pushSh ?_⟩
        exact .tup (SqT.of upd_same) (.cons (.int _) (.cons (rw'.mono (same_new (h2.fnone nT))) .nil))
    · refine ⟨ws, hs', ?_⟩
      have := rp.length
      simp at this
      cases hgi : (g x)[i]? with
      | none => have := List.getElem?_eq_none_iff.mp hgi; omega
      | some z => rw [hgi] at hn; cases hn)
theorem li_zip {fa : (τ1 → P1 → Option Ω) → Option Ω} {fb : P1 → (τ2 → P2 → Option Ω) → Option Ω} {g2 : τ2 → List β} {elts : List Expr} {kk : Nat} {tp p : Pos} (hg : Gl X "zip") (hm : X.mg "zip" = none) (hv : LVw S1 (it E) g1) (hv2 : LVw S2 (it Eb) g2) (h : LX X env a S1 e1 fa) (h2 : ∀ p1, LX X (e1 p1) b S2 (e2 p1) (fb p1))
    (hs : starEach [a, b] X.env = (false, eval a X.env) :: starEach [b] X.env := by rfl) (hs4 : starEach [b] X.env = (false, eval b X.env) :: starEach [] X.env := by rfl) (hpl : (backTo pos (starEach [b] X.env)).any (·.1) = false := by rfl) :
    LI X env (.Tuple elts kk tp) (.Call (.Name "zip" p) [a, b] [] pos) (it (eT2 E Eb)) (fun q : P1 × P2 => e2 q.1 q.2) (fun k => fa fun x p1 => fb p1 fun y p2 => k ((g1 x).zip (g2 y)) (p1, p2)) :=
  fun C F H σs es σ k ω R hK hl hr hk q => tI.of X (pi_zip hg hm (pa_cons (peC X) (pa_cons (peC X) pa_nil hs4) hs) hs hpl) (h C F H σs es σ _ ω _ hK hl hr hk fun x p1 v F1 H1 hk1 h1 =>
    h2 p1 C F1 H1 (some v :: σs) (.st none τ1 S1 x :: es) σ _ ω _ hK (by simp [hl]) h1 hk1 fun y p2 u F' H' hk' h' => by
      have h'' : ER C F' H' ([some u, some v] ++ (σs ++ σ)) ([.st none τ2 S2 y, .st none τ1 S1 x] ++ (es ++ e2 p1 p2)) := h'
      obtain ⟨u', fq, eq1, rq⟩ := h''.look (i := 0) rfl
      simp at eq1; subst eq1
      obtain ⟨v', fp, ev1, rv⟩ := h''.look (i := 1) rfl
      simp at ev1; subst ev1
      obtain ⟨pb, ws, fqs, rfl, hsb, rb⟩ := hv2.view h''.sF rq
      obtain ⟨pa, vs, fps, rfl, hsa, ra⟩ := hv.view h''.sF rv
      refine ⟨pa, pb, vs, ws, rfl, by rw [← hK]; exact hsa, by rw [← hK]; exact hsb, q ((g1 x).zip (g2 y)) (p1, p2) (Itz X.K pa pb) F' H' [some (.ref pb), some (.ref pa)] [.st none τ2 S2 y, .st none τ1 S1 x] hk' h'' ⟨rfl, fun i F2 H2 σ2 σb e2' eb hl2 h3 => ?_⟩⟩
      obtain ⟨u', fq', eq1, rq'⟩ := h3.look (i := e2'.length + 0) (by rw [at_app _ rfl]; rfl)
      rw [at_app _ hl2] at eq1
      simp at eq1; subst eq1
      obtain ⟨v', fp', ev1, rv'⟩ := h3.look (i := e2'.length + 1) (by rw [at_app _ rfl]; rfl)
      rw [at_app _ hl2] at ev1
      simp at ev1; subst ev1
      obtain ⟨pb', ws', fqs', e5, hsb', rb'⟩ := hv2.view h3.sF rq'
      obtain ⟨pa', vs', fps', e6, hsa', ra'⟩ := hv.view h3.sF rv'
      cases e5; cases e6
      rw [hK] at hsb' hsa'
      have rpb := rb'.zero.2
      have rpa := ra'.zero.2
      have lb := rpb.length
      have la := rpa.length
      simp at lb la
      refine ⟨fun z hz => ?_, fun hn => ?_⟩
      · rw [List.getElem?_zip_eq_some] at hz
        obtain ⟨hz1, hz2⟩ := hz
        obtain ⟨w1, hw1, rw1⟩ := rpa.get (i := i) (d := E.enc z.1) (by rw [List.getElem?_map, hz1]; rfl)
        obtain ⟨w2, hw2, rw2⟩ := rpb.get (i := i) (d := Eb.enc z.2) (by rw [List.getElem?_map, hz2]; rfl)
        refine ⟨⟨vs', ws', w1, w2, hsa', hsb', hw1, hw2⟩, fun v H' hy' => ?_⟩
        obtain ⟨T, x1, x2, rfl, nT, rfl, hy1, hy2⟩ := hy'
        have t1 := hy1 vs' hsa'
        have t2 := hy2 ws' hsb'
        rw [hw1] at t1; cases t1
        rw [hw2] at t2; cases t2
        refine ⟨upd F2 T (.tup [w1, w2]), (h3.newF nT).pushSh ?_⟩
        have sm := same_new (u := HO.tup [w1, w2]) (h3.fnone nT)
        exact .tup (SqT.of upd_same) (.cons (rw1.mono sm) (.cons (rw2.mono sm) .nil))
      · refine ⟨vs', ws', hsa', hsb', ?_⟩
        have := List.getElem?_eq_none_iff.mp hn
        rw [List.length_zip] at this
        omega)
end
section
variable {X : Cx} {R I Ω : Type} {SR : Stor R} {envR : I → Env} {kr : R → I → Option Ω} {bk ct : Lp Ω} {env : Env} {nm : Str} {pos : Pos} {e : Expr} {rest : List Stmt} {P : Type} {τ α : Type} {S : Stor τ} {E : Enc α} {e' : P → Env} {J : Type} {envJ : J → Env} {g : τ → List α}
/-- x.extend(ys), x a list of one's own -/
theorem lb_ext {f : (τ → P → Option Ω) → Option Ω} {fr : τ → P → (J → Option Ω) → Option Ω} {w : Option V} {x0 : List α} {xs : P → List α} {ap cp np : Pos} (i : Nat) (h0 : env[i]? = some (.st w (List α) (ls (it E)) x0)) (hvw : LVm S (it E) g)
    (he : LX X env e S e' f) (h1 : ∀ p, (e' p)[i]? = some (.st w (List α) (ls (it E)) (xs p))) (hr : ∀ y p, LB X SR envR kr bk ct ((e' p).set i (.st w (List α) (ls (it E)) (xs p ++ g y))) rest envJ (fr y p))
    (hN : X.N[i]? = some nm := by rfl) (hv : Vis X.env.scope nm := by first | exact Or.inl rfl | exact Or.inr (Or.inl rfl) | exact Or.inr (Or.inr rfl))
    (hd : (nm == ("__debug__" : Str)) = false := by decide) (hcd : (nm == ("__classdict__" : Str)) = false := by decide)
    (hbase : attributeBase (.Name nm np) "extend" X.env (eval (.Name nm np) X.env) = eval (.Name nm np) X.env := by rfl)
    (hfew : ((backTo cp (starEach [e] X.env)).all (fun x => !x.1) && (backToKw cp (keywordEach [] X.env)).all (fun x => x.1.isSome) && decide ([e].length + ([] : List Keyword).length + (if ([] : List Keyword).isEmpty then 0 else 1) < 30)) = true := by rfl)
    (hline : (ap.endLine == cp.line) = true := by rfl) (hse : starEach [e] X.env = (false, eval e X.env) :: starEach [] X.env := by rfl) (hplain : (backTo cp (starEach [] X.env)).any (·.1) = false := by rfl)
    (hsw : swapsWith (.Call (.Attribute (.Name nm np) "extend" ap) [e] [] cp) none pos.line X.env = pure false := by rfl) :
    LB X SR envR kr bk ct env (.Expr (.Call (.Attribute (.Name nm np) "extend" ap) [e] [] cp) pos :: rest) envJ (fun kn => f fun y p => ck (decide ((xs p).length + (g y).length ≤ SZ)) (fr y p kn)) :=
  fun C F H σs es σ kn ω D hK hl h hk qn qb qc qr => tSs.of X (pss_cons (ps_expr (pe_bm PySem.F.plainAttrs_list PySem.F.slot_list_extend PySem.F.type_list_extend mt_extend (pe_var hN hv hd hcd) (pa_cons (peC X) pa_nil hse) hbase hfew hline hse hplain) hsw) (pssC X)) (by
    obtain ⟨l, fp, e1, r⟩ := h.lookF hl h0
    obtain ⟨q0, vs0, fps0, rfl, hq0, _, _⟩ := r
    refine ⟨_, e1, .inl ⟨rfl, vs0, SqL.of hq0⟩, he C F H σs es σ _ ω _ hK hl h hk fun y p v F' H' hk' h' => ?_⟩
    obtain ⟨hc, hk'⟩ := ck_some hk'
    have hc' := of_decide_eq_true hc
    obtain ⟨v', fpy, ey, ry⟩ := h'.look (i := 0) rfl
    simp at ey; subst ey
    obtain ⟨pb, zs, fps, rfl, hb, rb⟩ := hvw.view h'.sF ry
    have rpb := rb.zero.2
    obtain ⟨l', fp', e4, r1, nd, ow, fin⟩ := (ER.pop h').mut (i := es.length + i) (by rw [at_app _ rfl]; exact h1 p)
    rw [at_app _ hl, e1] at e4
    cases e4
    obtain ⟨q1, vs, fps', e5, hq, ra, rfl⟩ := r1
    cases e5
    obtain ⟨rfl, rp⟩ := ra.zero
    have n1 : vs.length = (xs p).length := by have := rp.length; simpa using this
    have n2 : zs.length = (g y).length := by have := rpb.length; simpa using this
    refine ⟨q0, pb, vs, zs, rfl, rfl, hq, hb, by rw [SZ_eq]; omega, ?_⟩
    have fin' := fin (List α) (ls (it E)) (xs p ++ g y) (upd H' q0 (.lst (vs ++ zs))) [q0] (fun a na _ => upd_ne fun z => na (by rw [z]; simp)) (fun a m => ?_) ⟨q0, vs ++ zs, [], rfl, upd_same, ?_, rfl⟩ (by simp) (fun a m => ?_)
    · rw [List.set_append_right _ _ (Nat.le_add_right _ _), Nat.add_sub_cancel_left] at fin'
      exact hr y p C F' _ σs es σ kn ω D hK hl fin' hk' qn qb qc qr
    · by_cases z : a = q0
      · subst z; rw [upd_same]; exact fun z => by cases z
      · rw [upd_ne z]; exact m
    · have := rp.app rpb
      rw [← List.map_append] at this
      exact this.zero
    · simp at m; subst m
      exact ⟨by rw [upd_same]; exact (fun z => by cases z), .inl (by simp)⟩)
end
/-! ### the script; the last step -/
theorem lv_scr : LVw scr (it eI) id := ⟨fun {K F H fp v x} s r => by
  obtain ⟨_, a, rfl, q⟩ := r
  exact ⟨a, _, [], rfl, s.seq q, (RepAll.ofInts x).zero⟩⟩
theorem lb_use {X : Cx} {R I Ω J : Type} {SR : Stor R} {envR : I → Env} {kr : R → I → Option Ω} {bk ct : Lp Ω} {env : Env} {sts : List Stmt} {envJ : J → Env} {f f' : (J → Option Ω) → Option Ω} (h : LB X SR envR kr bk ct env sts envJ f) (e : f = f') : LB X SR envR kr bk ct env sts envJ f' := e ▸ h
theorem lx_use {X : Cx} {Ω P τ : Type} {S : Stor τ} {env : Env} {e : Expr} {env' : P → Env} {f f' : (τ → P → Option Ω) → Option Ω} (h : LX X env e S env' f) (q : f = f') : LX X env e S env' f' := q ▸ h
end Z

set_option Elab.async false
set_option linter.all false
set_option maxRecDepth 100000
namespace Z
open PySem PySem.Spec PyProof.Rows L2

/-! ### a state [n, cells]: a list that holds an int and a list of ints of its own -/
abbrev TSt := Int × List Int
def stT : Stor TSt where
  rel := fun _ _ H fp v t => ∃ p q, v = .ref p ∧ H p = some (.lst [.int t.1, .ref q]) ∧ H q = some (.lst (t.2.map V.int)) ∧ fp = [p, q]
  monoF := fun _ h => h
  frame := fun f h => by
    obtain ⟨p, q, rfl, h1, h2, rfl⟩ := h
    exact ⟨p, q, rfl, by rw [f p (by simp)]; exact h1, by rw [f q (by simp)]; exact h2, rfl⟩
/-- the same without the list: it stands at q -/
def stA (q : Addr) : Stor Int where
  rel := fun _ _ H fp v n => ∃ p, v = .ref p ∧ H p = some (.lst [.int n, .ref q]) ∧ fp = [p]
  monoF := fun _ h => h
  frame := fun f h => by
    obtain ⟨p, rfl, h1, rfl⟩ := h
    exact ⟨p, rfl, by rw [f p (by simp)]; exact h1, rfl⟩
section
variable {C : Ck} {F H : Hp} {σ : List (Option V)} {env : Env}
/-- the list of a state under a name of its own -/
theorem ER.split {i j : Nat} {w : V} {t : TSt} (h : ER C F H σ env) (e : env[i]? = some (.st (some w) TSt stT t)) (ej : env[j]? = some .un) : ∃ p q, σ[i]? = some (some (.ref p)) ∧ H p = some (.lst [.int t.1, .ref q]) ∧
    ER C F H (σ.set j (some (.ref q))) ((env.set i (.st (some w) Int (stA q) t.1)).set j (.st (some (.ref q)) (List Int) (ls (it eI)) t.2)) := by
  obtain ⟨fp, k⟩ := h.sl
  have hi := lt_of_get e
  have hj := lt_of_get ej
  have ne : i ≠ j := fun z => by subst z; rw [e] at ej; cases ej
  obtain ⟨v, e1, ⟨p, q, rfl, h1, h2, hf⟩, e2, k2⟩ := k.ok i _ e
  have e1' : σ[i]? = some (some (.ref p)) := by
    cases z : σ[i]? with
    | none => rw [z] at e1; cases e1
    | some o => rw [z] at e1; exact congrArg some e1
  have own := k.own i hi
  have nd := k.nd i hi
  rw [hf] at own nd k2
  have hpq : p ≠ q := by simpa using nd
  have mem : ∀ a, (a = p ∨ a = q) → a ∈ fp i := fun a m => by rw [hf]; simpa using m
  refine ⟨p, q, e1', h1, h.sB, h.sF, h.gr, h.up, by simp [h.len], fun l => if l = i then [p] else if l = j then [q] else fp l, fun l s el => ?_, fun l hl a ha => ?_, fun l m hl hm a ha hb => ?_, fun l hl => ?_⟩
  · by_cases zj : l = j
    · subst zj
      rw [List.getElem?_set_self (by simpa using hj)] at el
      cases el
      simp only [if_neg (fun z : l = i => ne z.symm), if_pos]
      have hls : l < σ.length := by rw [h.len]; exact hj
      refine ⟨.ref q, by rw [List.getElem?_set_self hls]; rfl, ⟨q, t.2.map V.int, [], rfl, h2, (RepAll.ofInts t.2).zero, rfl⟩, rfl, fun a m => ?_⟩
      simp at m; subst m
      exact k2 a (by simp)
    · rw [List.getElem?_set_ne (fun z => zj z.symm)] at el
      by_cases zi : l = i
      · subst zi
        rw [List.getElem?_set_self hi] at el
        cases el
        simp only [if_pos]
        refine ⟨.ref p, by rw [List.getElem?_set_ne (fun z => zj z.symm)]; exact e1, ⟨p, rfl, h1, rfl⟩, e2, fun a m => ?_⟩
        simp at m; subst m
        exact k2 a (by simp)
      · rw [List.getElem?_set_ne (fun z => zi z.symm)] at el
        simp only [if_neg zi, if_neg zj]
        rw [List.getElem?_set_ne (fun z => zj z.symm)]
        exact k.ok l s el
  · have hl' : l < env.length := by simpa using hl
    by_cases zi : l = i
    · simp only [if_pos zi] at ha
      simp at ha; subst ha
      exact own a (by simp)
    · simp only [if_neg zi] at ha
      by_cases zj : l = j
      · simp only [if_pos zj] at ha
        simp at ha; subst ha
        exact own a (by simp)
      · simp only [if_neg zj] at ha
        exact k.own l hl' a ha
  · have hl' : l < env.length := by simpa using hl
    have hm' : m < env.length := by simpa using hm
    have cl : ∀ l, l < env.length → a ∈ (if l = i then [p] else if l = j then [q] else fp l) → (l = i ∧ a = p) ∨ (l = j ∧ a = q) ∨ (l ≠ i ∧ l ≠ j ∧ a ∈ fp l) := fun l hl ha => by
      by_cases zi : l = i
      · simp only [if_pos zi] at ha; simp at ha; exact .inl ⟨zi, ha⟩
      · simp only [if_neg zi] at ha
        by_cases zj : l = j
        · simp only [if_pos zj] at ha; simp at ha; exact .inr (.inl ⟨zj, ha⟩)
        · simp only [if_neg zj] at ha; exact .inr (.inr ⟨zi, zj, ha⟩)
    rcases cl l hl' ha with ⟨a1, a2⟩ | ⟨a1, a2⟩ | ⟨a1, a2, a3⟩
    · rcases cl m hm' hb with ⟨b1, b2⟩ | ⟨b1, b2⟩ | ⟨b1, b2, b3⟩
      · rw [a1, b1]
      · exact absurd (a2.symm.trans b2) hpq
      · exact absurd (k.sep m i hm' hi a b3 (mem a (.inl a2))) b1
    · rcases cl m hm' hb with ⟨b1, b2⟩ | ⟨b1, b2⟩ | ⟨b1, b2, b3⟩
      · exact absurd (b2.symm.trans a2) hpq
      · rw [a1, b1]
      · exact absurd (k.sep m i hm' hi a b3 (mem a (.inr a2))) b1
    · rcases cl m hm' hb with ⟨b1, b2⟩ | ⟨b1, b2⟩ | ⟨b1, b2, b3⟩
      · exact absurd (k.sep l i hl' hi a a3 (mem a (.inl b2))) a1
      · exact absurd (k.sep l i hl' hi a a3 (mem a (.inr b2))) a1
      · exact k.sep l m hl' hm' a a3 b3
  · have hl' : l < env.length := by simpa using hl
    by_cases zi : l = i
    · simp only [if_pos zi]; simp
    · simp only [if_neg zi]
      by_cases zj : l = j
      · simp only [if_pos zj]; simp
      · simp only [if_neg zj]; exact k.nd l hl'
/-- .. and together again -/
theorem ER.join {i j : Nat} {w : V} {q : Addr} {n : Int} {cs : List Int} (h : ER C F H σ env) (e : env[i]? = some (.st (some w) Int (stA q) n)) (ej : env[j]? = some (.st (some (.ref q)) (List Int) (ls (it eI)) cs)) :
    ER C F H σ ((env.set i (.st (some w) TSt stT (n, cs))).set j .un) := by
  obtain ⟨fp, k⟩ := h.sl
  have hi := lt_of_get e
  have hj := lt_of_get ej
  obtain ⟨v, e1, ⟨p, rfl, h1, hf⟩, e2, k2⟩ := k.ok i _ e
  obtain ⟨u, u1, ⟨q', vs, fps, rfl, h2, ra, hg⟩, u2, u3⟩ := k.ok j _ ej
  have hq : q' = q := by cases u2; rfl
  subst hq
  obtain ⟨rfl, rp⟩ := ra.zero
  have hv := rp.ints
  subst hv
  have ne : i ≠ j := fun z => by
    subst z
    rw [e1] at u1
    have e3 : p = q' := by
      have := Option.some.inj u1
      cases this; rfl
    subst e3
    rw [h1] at h2
    have e4 := Option.some.inj h2
    have e5 : [V.int n, V.ref p] = cs.map V.int := by injection e4
    cases cs with
    | nil => simp at e5
    | cons a cs => cases cs with
      | nil => simp at e5
      | cons b cs => simp at e5
  have ownp := k.own i hi p (by rw [hf]; simp)
  have ownq := k.own j hj q' (by rw [hg]; simp)
  have hpq : p ≠ q' := fun z => by
    subst z
    exact ne (k.sep i j hi hj p (by rw [hf]; simp) (by rw [hg]; simp))
  refine ⟨h.sB, h.sF, h.gr, h.up, by simp [h.len], fun l => if l = i then [p, q'] else if l = j then [] else fp l, fun l s el => ?_, fun l hl a ha => ?_, fun l m hl hm a ha hb => ?_, fun l hl => ?_⟩
  · by_cases zj : l = j
    · subst zj
      rw [List.getElem?_set_self (by simpa using hj)] at el
      cases el
      simp only [if_neg (fun z : l = i => ne z.symm), if_pos]
      rfl
    · rw [List.getElem?_set_ne (fun z => zj z.symm)] at el
      by_cases zi : l = i
      · subst zi
        rw [List.getElem?_set_self hi] at el
        cases el
        simp only [if_pos]
        refine ⟨.ref p, e1, ⟨p, q', rfl, h1, h2, rfl⟩, e2, fun a m => ?_⟩
        simp at m
        rcases m with rfl | rfl
        · exact k2 a (by rw [hf]; simp)
        · exact u3 a (by rw [hg]; simp)
      · rw [List.getElem?_set_ne (fun z => zi z.symm)] at el
        simp only [if_neg zi, if_neg zj]
        exact k.ok l s el
  · have hl' : l < env.length := by simpa using hl
    by_cases zi : l = i
    · simp only [if_pos zi] at ha
      simp at ha
      rcases ha with rfl | rfl
      · exact ownp
      · exact ownq
    · simp only [if_neg zi] at ha
      by_cases zj : l = j
      · simp [if_pos zj] at ha
      · simp only [if_neg zj] at ha
        exact k.own l hl' a ha
  · have hl' : l < env.length := by simpa using hl
    have hm' : m < env.length := by simpa using hm
    have cl : ∀ l, l < env.length → a ∈ (if l = i then [p, q'] else if l = j then [] else fp l) → (l = i ∧ (a ∈ fp i ∨ a ∈ fp j)) ∨ (l ≠ i ∧ l ≠ j ∧ a ∈ fp l) := fun l hl ha => by
      by_cases zi : l = i
      · simp only [if_pos zi] at ha; simp at ha
        refine .inl ⟨zi, ?_⟩
        rcases ha with rfl | rfl
        · exact .inl (by rw [hf]; simp)
        · exact .inr (by rw [hg]; simp)
      · simp only [if_neg zi] at ha
        by_cases zj : l = j
        · simp [if_pos zj] at ha
        · simp only [if_neg zj] at ha; exact .inr ⟨zi, zj, ha⟩
    rcases cl l hl' ha with ⟨a1, a2⟩ | ⟨a1, a2, a3⟩
    · rcases cl m hm' hb with ⟨b1, b2⟩ | ⟨b1, b2, b3⟩
      · rw [a1, b1]
      · rcases a2 with a2 | a2
        · exact absurd (k.sep m i hm' hi a b3 a2) b1
        · exact absurd (k.sep m j hm' hj a b3 a2) b2
    · rcases cl m hm' hb with ⟨b1, b2⟩ | ⟨b1, b2, b3⟩
      · rcases b2 with b2 | b2
        · exact absurd (k.sep l i hl' hi a a3 b2) a1
        · exact absurd (k.sep l j hl' hj a a3 b2) a2
      · exact k.sep l m hl' hm' a a3 b3
  · have hl' : l < env.length := by simpa using hl
    by_cases zi : l = i
    · simp only [if_pos zi]; simp [hpq]
    · simp only [if_neg zi]
      by_cases zj : l = j
      · simp [if_pos zj]
      · simp only [if_neg zj]; exact k.nd l hl'
/-- a new state of a number and a list -/
theorem ER.joinTop {p q : Addr} {n : Int} {cs : List Int} (h : ER C F H (some (.ref p) :: some (.ref q) :: σ) (.st none Int (stA q) n :: .st none (List Int) (ls (it eI)) cs :: env)) : ER C F H (some (.ref p) :: σ) (.st none TSt stT (n, cs) :: env) := by
  obtain ⟨fp, k⟩ := h.sl
  obtain ⟨v, e1, ⟨p', rfl, h1, hf⟩, k2⟩ := k.ok 0 _ rfl
  simp at e1; subst e1
  obtain ⟨u, u1, ⟨q', vs, fps, rfl, h2, ra, hg⟩, u3⟩ := k.ok 1 _ rfl
  simp at u1; subst u1
  obtain ⟨rfl, rp⟩ := ra.zero
  have hv := rp.ints
  subst hv
  have l0 : 0 < (Slot.st none Int (stA q) n :: Slot.st none (List Int) (ls (it eI)) cs :: env).length := by simp
  have l1 : 1 < (Slot.st none Int (stA q) n :: Slot.st none (List Int) (ls (it eI)) cs :: env).length := by simp
  have ownp := k.own 0 l0 p (by rw [hf]; simp)
  have ownq := k.own 1 l1 q (by rw [hg]; simp)
  have hpq : p ≠ q := fun z => by
    subst z
    have := k.sep 0 1 l0 l1 p (by rw [hf]; simp) (by rw [hg]; simp)
    omega
  have hp := h.pop.pop
  refine ⟨hp.sB, hp.sF, hp.gr, hp.up, by simp [hp.len], _, Fps.push (fp := fun l => fp (l + 2)) ⟨fun l s el => ?_, fun l hl a ha => ?_, fun l m hl hm a ha hb => ?_, fun l hl => ?_⟩ (fq := [p, q]) ⟨_, rfl, ⟨p, q, rfl, h1, h2, rfl⟩, fun a m => ?_⟩ (fun a m => ?_) (by simp [hpq]) fun l hl a ha m => ?_⟩
  · have := k.ok (l + 2) s (by simpa using el)
    simpa using this
  · exact k.own (l + 2) (by simpa using hl) a ha
  · have := k.sep (l + 2) (m + 2) (by simpa using hl) (by simpa using hm) a ha hb
    omega
  · exact k.nd (l + 2) (by simpa using hl)
  · simp at m
    rcases m with rfl | rfl
    · exact k2 a (by rw [hf]; simp)
    · exact u3 a (by rw [hg]; simp)
  · simp at m
    rcases m with rfl | rfl
    · exact ownp
    · exact ownq
  · simp at m
    rcases m with rfl | rfl
    · have := k.sep (l + 2) 0 (by simpa using hl) l0 a ha (by rw [hf]; simp); omega
    · have := k.sep (l + 2) 1 (by simpa using hl) l1 a ha (by rw [hg]; simp); omega
end
section
variable {X : Cx} {R I Ω : Type} {SR : Stor R} {envR : I → Env} {kr : R → I → Option Ω} {bk ct : Lp Ω} {env : Env} {nm nm2 : Str} {pos : Pos} {a b e : Expr} {rest : List Stmt} {P P1 P2 : Type} {J : Type} {envJ : J → Env} {e' : P → Env} {e1 : P1 → Env} {e2 : P1 → P2 → Env}
/-- cells = state[1] -/
theorem lb_alias {f : (J → Option Ω) → Option Ω} {w : V} {t : TSt} {p1 p2 cp sp : Pos} {k : Nat} (i j : Nat) (hN : X.N.Nodup) (he : env[i]? = some (.st (some w) TSt stT t)) (hj : env[j]? = some .un)
    (hr : ∀ q, LB X SR envR kr bk ct ((env.set i (.st (some w) Int (stA q) t.1)).set j (.st (some (.ref q)) (List Int) (ls (it eI)) t.2)) rest envJ f)
    (hi : X.N[i]? = some nm := by rfl) (hv_nm : Vis X.env.scope nm := by first | exact Or.inl rfl | exact Or.inr (Or.inl rfl) | exact Or.inr (Or.inr rfl)) (hd : (nm == ("__debug__" : Str)) = false := by decide) (hcd : (nm == ("__classdict__" : Str)) = false := by decide)
    (hi2 : X.N[j]? = some nm2 := by rfl) (hx : Loc X.env.scope nm2 := by first | exact Or.inl rfl | exact Or.inr rfl) (hf : X.fn nm2 = true ∨ X.env.scope.names.lookup nm2 = some .local := by first | exact .inl rfl | exact .inr rfl)
    (hs : swapsWith (.Subscript (.Name nm p1) (.Constant (.int 1) k cp) sp) (some (.Name nm2 p2)) pos.line X.env = pure false := by rfl) :
    LB X SR envR kr bk ct env (.Assign [.Name nm2 p2] (.Subscript (.Name nm p1) (.Constant (.int 1) k cp) sp) pos :: rest) envJ f :=
  fun C F H σs es σ kn ω D hK hl h hk qn qb qc qr => tSs.of X (pss_cons (ps_set hN hi2 hx (pe_ix ix_list (pe_var hi hv_nm hd hcd) pe_int fun _ _ => rfl) hs hf) (pssC X)) (by
    obtain ⟨p, q, s1, h1, h2⟩ := h.split (i := es.length + i) (j := es.length + j) (by rw [at_app _ rfl]; exact he) (by rw [at_app _ rfl]; exact hj)
    rw [at_app _ hl] at s1
    rw [← hl, List.set_append_right _ _ (Nat.le_add_right _ _), Nat.add_sub_cancel_left, hl, List.set_append_right _ _ (Nat.le_add_right _ _), Nat.add_sub_cancel_left, List.set_append_right _ _ (Nat.le_add_right _ _), Nat.add_sub_cancel_left] at h2
    exact ⟨_, s1, p, [.int t.1, .ref q], 1, .ref q, rfl, rfl, SqL.of h1, rfl, hr q C F H σs es _ kn ω D hK hl h2 hk qn qb qc qr⟩)
/-- the list is the state's again -/
theorem lb_join {sts : List Stmt} {f : (J → Option Ω) → Option Ω} {w : V} {q : Addr} {n : Int} {cs : List Int} (i j : Nat) (he : env[i]? = some (.st (some w) Int (stA q) n)) (hj : env[j]? = some (.st (some (.ref q)) (List Int) (ls (it eI)) cs))
    (hr : LB X SR envR kr bk ct ((env.set i (.st (some w) TSt stT (n, cs))).set j .un) sts envJ f) : LB X SR envR kr bk ct env sts envJ f :=
  fun C F H σs es σ kn ω D hK hl h hk qn qb qc qr => by
    have h2 := h.join (i := es.length + i) (j := es.length + j) (by rw [at_app _ rfl]; exact he) (by rw [at_app _ rfl]; exact hj)
    rw [List.set_append_right _ _ (Nat.le_add_right _ _), Nat.add_sub_cancel_left, List.set_append_right _ _ (Nat.le_add_right _ _), Nat.add_sub_cancel_left] at h2
    exact hr C F H σs es σ kn ω D hK hl h2 hk qn qb qc qr
/-- state[0] -/
theorem lx_st0 {w : Option V} {q : Addr} {n : Int} {p1 cp sp : Pos} {k : Nat} (i : Nat) (he : env[i]? = some (.st w Int (stA q) n)) (hi : X.N[i]? = some nm := by rfl) (hv_nm : Vis X.env.scope nm := by first | exact Or.inl rfl | exact Or.inr (Or.inl rfl) | exact Or.inr (Or.inr rfl)) (hd : (nm == ("__debug__" : Str)) = false := by decide) (hcd : (nm == ("__classdict__" : Str)) = false := by decide) :
    LX X env (.Subscript (.Name nm p1) (.Constant (.int 0) k cp) sp) (it eI) (fun _ : Unit => env) (fun (k : Int → Unit → Option Ω) => k n ()) :=
  fun C F H σs es σ k ω Q hK hl h hk q => tE.of X (pe_ix ix_list (pe_var hi hv_nm hd hcd) pe_int fun _ _ => rfl) (by
    obtain ⟨v, fp, e1, p, rfl, h1, _⟩ := h.lookF hl he
    exact ⟨_, e1, p, _, 0, .int n, rfl, rfl, SqL.of h1, rfl, q n () _ F H hk (h.pushSh (.int n))⟩)
/-- state[0] = e -/
theorem lb_st0 {f : (Int → P → Option Ω) → Option Ω} {fr : Int → P → (J → Option Ω) → Option Ω} {w : Option V} {q : Addr} {n : P → Int} {p1 cp sp : Pos} {k : Nat} (i : Nat) (he : LX X env e (it eI) e' f) (h1 : ∀ p, (e' p)[i]? = some (.st w Int (stA q) (n p)))
    (hr : ∀ y p, LB X SR envR kr bk ct ((e' p).set i (.st w Int (stA q) y)) rest envJ (fr y p)) (hi : X.N[i]? = some nm := by rfl) (hv_nm : Vis X.env.scope nm := by first | exact Or.inl rfl | exact Or.inr (Or.inl rfl) | exact Or.inr (Or.inr rfl)) (hd : (nm == ("__debug__" : Str)) = false := by decide) (hcd : (nm == ("__classdict__" : Str)) = false := by decide)
    (ha : ∀ v, assign (.Subscript (.Name nm p1) (.Constant (.int 0) k cp) sp) X.env v = (do
      let ov ← holding [v] (eval (.Name nm p1) X.env)
      let iv ← holding [v, ov] (eval (.Constant (.int 0) k cp) X.env)
      standAt sp
      holding [v, ov, iv] (setItem ov iv v)
      release [v, ov, iv] []) := by intro _; rfl)
    (hs : swapsWithSole [.Subscript (.Name nm p1) (.Constant (.int 0) k cp) sp] e pos.line X.env = pure false := by rfl) (hw : swappedStores [.Subscript (.Name nm p1) (.Constant (.int 0) k cp) sp] e X.env = pure none := by rfl) (ha1 : (assignEach [.Subscript (.Name nm p1) (.Constant (.int 0) k cp) sp] X.env).map (·.2) = [assign (.Subscript (.Name nm p1) (.Constant (.int 0) k cp) sp) X.env] := by rfl) :
    LB X SR envR kr bk ct env (.Assign [.Subscript (.Name nm p1) (.Constant (.int 0) k cp) sp] e pos :: rest) envJ (fun kn => f fun y p => fr y p kn) :=
  fun C F H σs es σ kn ω D hK hl h hk qn qb qc qr => tSs.of X (pss_cons (ps_asg (peC X) (pg_sub (pe_var hi hv_nm hd hcd) pe_int set_list ha) hs hw ha1) (pssC X)) (he C F H σs es σ _ ω _ hK hl h hk fun y p v F' H' hk' h' => by
    have hvy : v = .int y := by
      obtain ⟨v', fp, e1, r⟩ := h'.look (i := 0) rfl
      simp at e1; subst e1
      obtain ⟨_, r⟩ := r
      cases r; rfl
    subst hvy
    obtain ⟨l, fp, e1, r1, nd, ow, fin⟩ := (ER.pop h').mut (i := es.length + i) (by rw [at_app _ rfl]; exact h1 p)
    rw [at_app _ hl] at e1
    obtain ⟨p0, rfl, h2, rfl⟩ := r1
    refine ⟨_, e1, p0, _, 0, 0, rfl, rfl, h2, rfl, ?_⟩
    have fin' := fin Int (stA q) y (upd H' p0 (.lst [.int y, .ref q])) [p0] (fun a na _ => upd_ne fun z => na (by rw [z]; simp)) (fun a m => ?_) ⟨p0, rfl, upd_same, rfl⟩ (by simp) (fun a m => ?_)
    · rw [List.set_append_right _ _ (Nat.le_add_right _ _), Nat.add_sub_cancel_left] at fin'
      exact hr y p C F' _ σs es σ kn ω D hK hl fin' hk' qn qb qc qr
    · by_cases z : a = p0
      · subst z; rw [upd_same]; exact fun z => by cases z
      · rw [upd_ne z]; exact m
    · simp at m; subst m
      exact ⟨by rw [upd_same]; exact (fun z => by cases z), .inl (by simp)⟩)
/-- [n, cells] -/
theorem lx_st {fa : (Int → P1 → Option Ω) → Option Ω} {fb : P1 → (List Int → P2 → Option Ω) → Option Ω} (ha : LX X env a (it eI) e1 fa) (hb : ∀ p, LX X (e1 p) b (ls (it eI)) (e2 p) (fb p))
    (hs : starEach [a, b] X.env = (false, eval a X.env) :: starEach [b] X.env := by rfl) (hs2 : starEach [b] X.env = (false, eval b X.env) :: starEach [] X.env := by rfl) :
    LX X env (.List [a, b] pos) stT (fun p : P1 × P2 => e2 p.1 p.2) (fun k => fa fun x p1 => fb p1 fun y p2 => k (x, y) (p1, p2)) :=
  fun C F H σs es σ k ω Q hK hl h hk q => tE.of X (pe_lst (pa_cons (peC X) (pa_cons (peC X) pa_nil hs2) hs)) (ha C F H σs es σ _ ω _ hK hl h hk fun x p1 v F1 H1 hk1 h1 =>
    hb p1 C F1 H1 (some v :: σs) (.st none Int (it eI) x :: es) σ _ ω _ hK (by simp [hl]) h1 hk1 fun y p2 u F2 H2 hk2 h2 => by
      have hvx : v = .int x := by
        obtain ⟨v', fp, e1, r⟩ := h2.look (i := 1) rfl
        simp at e1; subst e1
        obtain ⟨_, r⟩ := r
        cases r; rfl
      subst hvx
      obtain ⟨u', fp, e1, q0, vs, fps, rfl, hq, _, _⟩ := h2.look (i := 0) rfl
      simp at e1; subst e1
      refine ⟨by show 2 ≤ sizeLine; rw [SZ_eq]; decide, fun t nt => ?_⟩
      have z2 : ER C F2 H2 ([some (.ref q0)] ++ some (.int x) :: (σs ++ σ)) ([.st none (List Int) (ls (it eI)) y] ++ .st none Int (it eI) x :: (es ++ e2 p1 p2)) := h2
      have h3 : ER C F2 H2 (some (.ref q0) :: (σs ++ σ)) (.st none (List Int) (ls (it eI)) y :: (es ++ e2 p1 p2)) := ER.pop (ER.rot z2 rfl)
      have h4 := h3.newOw (S := stA q0) (x := x) (v := .ref t) nt ⟨t, rfl, upd_same, rfl⟩
      exact q (x, y) (p1, p2) (.ref t) F2 _ hk2 h4.joinTop)
/-- x, y = a, b -/
theorem lb_par {τ1 τ2 : Type} {S1 : Stor τ1} {S2 : Stor τ2} {f : ((τ1 × τ2 × Unit) → P → Option Ω) → Option Ω} {fr : τ1 → τ2 → P → (J → Option Ω) → Option Ω} {px py pt : Pos} {kt k2 : Nat} {pt2 : Pos} (i j : Nat) (hN : X.N.Nodup) (hc : X.calm = true) (ha : LA X env [a, b] (fun p : τ1 × τ2 × Unit => [.st none τ1 S1 p.1, .st none τ2 S2 p.2.1]) e' f)
    (hr : ∀ x y p, LB X SR envR kr bk ct (((e' p).set i (.st none τ1 S1 x)).set j (.st none τ2 S2 y)) rest envJ (fr x y p))
    (hi : X.N[i]? = some nm := by rfl) (hj : X.N[j]? = some nm2 := by rfl) (hij : i ≠ j := by decide) (hx : X.env.scope.names.lookup nm = some .local := by rfl) (hy : X.env.scope.names.lookup nm2 = some .local := by rfl)
    (hli : ∀ p, i < (e' p).length := by exact (fun _ => Nat.lt_of_sub_eq_succ rfl)) (hlj : ∀ p, j < (e' p).length := by exact (fun _ => Nat.lt_of_sub_eq_succ rfl))
    (hw : swappedStores [.Tuple [.Name nm px, .Name nm2 py] kt pt] (.Tuple [a, b] k2 pt2) X.env = pure (some [nm, nm2]) := by rfl)
    (hs : swapsWithSole [.Tuple [.Name nm px, .Name nm2 py] kt pt] (.Tuple [a, b] k2 pt2) pos.line X.env = pure false := by rfl) :
    LB X SR envR kr bk ct env (.Assign [.Tuple [.Name nm px, .Name nm2 py] kt pt] (.Tuple [a, b] k2 pt2) pos :: rest) envJ (fun kn => f fun r p => fr r.1 r.2.1 p kn) :=
  fun C F H σs es σ kn ω D hK hl h hk qn qb qc qr => tSs.of X (pss_cons (ps_par hc hN hi hj hij hx hy (paC X) hw hs) (pssC X)) (ha C F H σs es σ _ ω _ hK hl h hk fun r p vs F' H' hk' hv h' => by
    match vs, hv with
    | [v, u], _ =>
      refine ⟨v, u, rfl, ?_⟩
      have h2 := ER.asg (σs := some u :: σs) (es := .st none τ2 S2 r.2.1 :: es) (σ := σ) (env := e' p) h' (by simp [hl]) (hli p)
      have h3 := ER.asg (σs := σs) (es := es) (σ := σ.set i (some v)) h2 hl (by simpa using hlj p)
      exact hr r.1 r.2.1 p C F' H' σs es _ kn ω D hK hl h3 hk' qn qb qc qr)
/-- from a law's call to its def's promise -/
theorem law_sp {K : Fg} {H : Hp} {a : Addr} {ns : List Int} {m : List Int × Unit → Option Bool} {Q : VK} {E : XK} (hS : SqL K H a (ns.map V.int)) (hm : m (ns, ()) = some true) (q : ∀ H', Q (.bl true) H') :
    spP K (fun a : List Int × Unit => [.st none (List Int) scr a.1]) (it eB) m [.ref a] H Q E := by
  refine ⟨H, H, (ns, ()), true, hm, rfl, ⟨fun _ _ e => e, fun _ _ e => e, fun _ m => .inl m, fun _ m => m, rfl, fun _ => [], fun i s e => ?_, fun i hi a ha => (nomatch ha), fun i j _ _ a ha => (nomatch ha), fun i _ => List.nodup_nil⟩, fun F' H' v h => ?_⟩
  · match i, e with
    | 0, e =>
      cases e
      exact ⟨_, rfl, ⟨rfl, a, rfl, hS⟩, fun _ m => nomatch m⟩
    | i + 1, e => simp at e
  · have hv : v = .bl true := by
      obtain ⟨v', fp, e1, r⟩ := h.look (i := 0) rfl
      simp at e1; subst e1
      obtain ⟨_, r⟩ := r
      cases r; rfl
    rw [hv]; exact q H'
end
end Z

set_option Elab.async false
set_option linter.all false
set_option maxRecDepth 100000
namespace Z
open PySem PySem.Spec PyProof.Rows L2

/-! ### the mirrors in plain words -/
section
variable {α β S Ω : Type}
theorem ixN_nat {n i : Nat} (h : i < n) : ixN n (i : Int) = some i := by
  unfold ixN
  rw [if_pos (by omega), if_pos (by omega), Int.toNat_natCast]
theorem atI_nat {xs : List α} {i : Nat} (h : i < xs.length) : atI xs (i : Int) = some xs[i] := by
  unfold atI
  rw [ixN_nat h]
  exact List.getElem?_eq_getElem h
theorem atI_pos {xs : List α} {i : Int} (h0 : 0 ≤ i) (h1 : i < xs.length) : ∃ (k : Nat) (h : k < xs.length), i = k ∧ atI xs i = some xs[k] :=
  by
  obtain ⟨k, rfl⟩ := Int.eq_ofNat_of_zero_le h0
  exact ⟨k, by omega, rfl, atI_nat (by omega)⟩
theorem rangeL_nat (n : Nat) : rangeL 0 (n : Int) = (List.range n).map fun i : Nat => ((i : Nat) : Int) := by
  unfold rangeL
  simp
theorem mem_rangeL {n : Nat} {x : Int} : x ∈ rangeL 0 (n : Int) ↔ ∃ i : Nat, i < n ∧ x = i := by
  rw [rangeL_nat]
  simp only [List.mem_map, List.mem_range]
  exact ⟨fun ⟨i, h, e⟩ => ⟨i, h, e.symm⟩, fun ⟨i, h, e⟩ => ⟨i, h, e.symm⟩⟩
theorem rgOk_nat {n : Nat} (h : n < 2 ^ 62) : rgOk 0 (n : Int) = true := by
  unfold rgOk
  have h2 : (n : Int) < 2 ^ 62 := by exact_mod_cast h
  exact decide_eq_true ⟨by decide, by decide, by omega, h2⟩
theorem mulOk_l {i j : Int} (h0 : 0 ≤ i) (h : i < 2 ^ 64) : mulOk i j = true := decide_eq_true (.inl ⟨by omega, h⟩)
theorem mulOk_r {i j : Int} (h0 : 0 ≤ j) (h : j < 2 ^ 64) : mulOk i j = true := decide_eq_true (.inr ⟨by omega, h⟩)
theorem divOk_pos {j : Int} (h0 : 0 < j) (h : j < 1073741824) : divOk j = true := decide_eq_true ⟨by omega, by omega⟩
theorem modOk_pos {j : Int} (h0 : 0 < j) : modOk j = true := decide_eq_true (by omega)
theorem ck_wp {b : Bool} {k : Option Ω} {ω : Ω} (h : b = true) (hk : k = some ω) : ck b k = some ω := by rw [h]; exact hk
theorem bind_wp {o : Option α} {k : α → Option Ω} {ω : Ω} {a : α} (h : o = some a) (hk : k a = some ω) : o.bind k = some ω := by rw [h]; exact hk
/-- a for, by an invariant over the turns -/
theorem forO_wpN {ω : Ω} (Inv : Nat → S → Prop) {b : α → S → (S → Option Ω) → Option Ω} {k : S → Option Ω} : ∀ (xs : List α) (n : Nat) (s : S), Inv n s →
    (∀ i s x, xs[i]? = some x → Inv (n + i) s → ∀ kc : S → Option Ω, (∀ s', Inv (n + i + 1) s' → kc s' = some ω) → b x s kc = some ω) → (∀ s, Inv (n + xs.length) s → k s = some ω) → forO xs s b k = some ω
  | [], n, s, h0, _, he => he s h0
  | x :: xs, n, s, h0, hs, he => hs 0 s x rfl h0 _ fun s' h' => forO_wpN Inv xs (n + 1) s' h'
      (fun i s y e h kc hk => hs (i + 1) s y e (by rw [show n + (i + 1) = n + 1 + i by omega]; exact h) kc fun s' h' => hk s' (by rw [show n + 1 + i + 1 = n + (i + 1) + 1 by omega]; exact h'))
      fun s h => he s (by rw [show n + (x :: xs).length = n + 1 + xs.length by simp; omega]; exact h)
/-- .. by one that stays -/
theorem forO_wp {ω : Ω} (Inv : S → Prop) {b : α → S → (S → Option Ω) → Option Ω} {k : S → Option Ω} {xs : List α} {s : S} (h0 : Inv s)
    (hs : ∀ s x, x ∈ xs → Inv s → ∀ kc : S → Option Ω, (∀ s', Inv s' → kc s' = some ω) → b x s kc = some ω) (he : ∀ s, Inv s → k s = some ω) : forO xs s b k = some ω :=
  forO_wpN (fun _ => Inv) xs 0 s h0 (fun i s x e h kc hk => hs s x (List.mem_of_getElem? e) h kc hk) he
theorem forO_fold (g : S → α → S) {b : α → S → (S → Option Ω) → Option Ω} {k : S → Option Ω} : ∀ (xs : List α) (s : S), (∀ x ∈ xs, ∀ s kc, b x s kc = kc (g s x)) → forO xs s b k = k (xs.foldl g s)
  | [], s, _ => rfl
  | x :: xs, s, h => (h x (List.mem_cons_self ..) s _).trans (forO_fold g xs (g s x) fun y m => h y (List.mem_cons_of_mem _ m))
/-- two walks that go alike: both end with one answer, or both go on -/
theorem forO_two {Pr : Ω → Prop} {b1 b2 : α → Unit → (Unit → Option Ω) → Option Ω} : ∀ (xs : List α), (∀ x ∈ xs, (∃ r, Pr r ∧ ∀ k1 k2, b1 x () k1 = some r ∧ b2 x () k2 = some r) ∨ (∀ k1 k2, b1 x () k1 = k1 () ∧ b2 x () k2 = k2 ())) →
    (∃ r, Pr r ∧ ∀ k1 k2, forO xs () b1 k1 = some r ∧ forO xs () b2 k2 = some r) ∨ (∀ k1 k2, forO xs () b1 k1 = k1 () ∧ forO xs () b2 k2 = k2 ())
  | [], _ => .inr fun _ _ => ⟨rfl, rfl⟩
  | x :: xs, h => by
    rcases h x (List.mem_cons_self ..) with ⟨r, hr, h1⟩ | h1
    · exact .inl ⟨r, hr, fun k1 k2 => h1 _ _⟩
    · rcases forO_two xs (fun y m => h y (List.mem_cons_of_mem _ m)) with ⟨r, hr, h2⟩ | h2
      · exact .inl ⟨r, hr, fun k1 k2 => ⟨(h1 (fun _ => forO xs () b1 k1) (fun _ => forO xs () b2 k2)).1.trans (h2 k1 k2).1, (h1 (fun _ => forO xs () b1 k1) (fun _ => forO xs () b2 k2)).2.trans (h2 k1 k2).2⟩⟩
      · exact .inr fun k1 k2 => ⟨(h1 (fun _ => forO xs () b1 k1) (fun _ => forO xs () b2 k2)).1.trans (h2 k1 k2).1, (h1 (fun _ => forO xs () b1 k1) (fun _ => forO xs () b2 k2)).2.trans (h2 k1 k2).2⟩
/-- a walk that always goes on -/
theorem forO_skip {b : α → Unit → (Unit → Option Ω) → Option Ω} {k : Unit → Option Ω} : ∀ (xs : List α), (∀ x ∈ xs, ∀ kc, b x () kc = kc ()) → forO xs () b k = k ()
  | [], _ => rfl
  | x :: xs, h => (h x (List.mem_cons_self ..) _).trans (forO_skip xs fun y m => h y (List.mem_cons_of_mem _ m))
/-- a comprehension, by an invariant -/
theorem compO_wp {ω : Ω} (Inv : S → Prop) (Pe : β → Prop) {b : α → S → (Option β → S → Option Ω) → Option Ω} {k : List β → S → Option Ω} : ∀ (xs : List α) (s : S) (acc : List β), Inv s → (∀ y ∈ acc, Pe y) → acc.length + xs.length ≤ SZ →
    (∀ s x, x ∈ xs → Inv s → ∀ kc : Option β → S → Option Ω, (∀ y s', Pe y → Inv s' → kc (some y) s' = some ω) → b x s kc = some ω) → (∀ ys s, ys.length = acc.length + xs.length → (∀ y ∈ ys, Pe y) → Inv s → k ys s = some ω) → compO xs s b acc k = some ω
  | [], s, acc, h0, ha, _, _, he => he acc s rfl ha h0
  | x :: xs, s, acc, h0, ha, hl, hs, he => hs s x (List.mem_cons_self ..) h0 _ fun y s' hy h' => by
    have hl' : acc.length + 1 + xs.length ≤ SZ := by simpa [Nat.add_assoc, Nat.add_comm 1] using hl
    refine ck_wp (decide_eq_true (by omega)) (compO_wp Inv Pe xs s' (acc ++ [y]) h' (fun z m => ?_) (by simpa using hl') (fun s z m => hs s z (List.mem_cons_of_mem _ m)) fun ys s e => he ys s (by simp at e ⊢; omega))
    rcases List.mem_append.1 m with m | m
    · exact ha z m
    · simp at m; subst m; exact hy
/-- .. that maps -/
theorem compO_map (g : α → β) {b : α → S → (Option β → S → Option Ω) → Option Ω} {k : List β → S → Option Ω} (s : S) : ∀ (xs : List α) (acc : List β), acc.length + xs.length ≤ SZ → (∀ x ∈ xs, ∀ kc, b x s kc = kc (some (g x)) s) → compO xs s b acc k = k (acc ++ xs.map g) s
  | [], acc, _, _ => by simp [compO]
  | x :: xs, acc, hl, h => by
    have hl' : acc.length + 1 + xs.length ≤ SZ := by simpa [Nat.add_assoc, Nat.add_comm 1] using hl
    refine (h x (List.mem_cons_self ..) _).trans ?_
    show ck _ _ = _
    rw [decide_eq_true (show acc.length < SZ by omega), ck_true, compO_map g s xs (acc ++ [g x]) (by simpa using hl') fun y m => h y (List.mem_cons_of_mem _ m)]
    simp
/-- .. that sifts and maps -/
theorem compO_filterMap (g : α → Option β) {b : α → S → (Option β → S → Option Ω) → Option Ω} {k : List β → S → Option Ω} (s : S) : ∀ (xs : List α) (acc : List β), acc.length + xs.length ≤ SZ → (∀ x ∈ xs, ∀ kc, b x s kc = kc (g x) s) → compO xs s b acc k = k (acc ++ xs.filterMap g) s
  | [], acc, _, _ => by simp [compO]
  | x :: xs, acc, hl, h => by
    have hl' : acc.length + 1 + xs.length ≤ SZ := by simpa [Nat.add_assoc, Nat.add_comm 1] using hl
    refine (h x (List.mem_cons_self ..) _).trans ?_
    cases e : g x with
    | some y =>
      show ck _ _ = _
      rw [decide_eq_true (show acc.length < SZ by omega), ck_true, compO_filterMap g s xs (acc ++ [y]) (by simpa using hl') fun y m => h y (List.mem_cons_of_mem _ m)]
      simp [e]
    | none =>
      show compO xs s b acc k = _
      rw [compO_filterMap g s xs acc (by omega) fun y m => h y (List.mem_cons_of_mem _ m)]
      simp [e]
end
/-! ### the drawing of the laws -/
def takeM (t0 : TSt) (a_most : Int) : Option (Int × TSt) :=
  ck (modOk (List.length t0.2 : Int)) (let v_at : Int := (Int.fmod t0.1 (List.length t0.2 : Int))
  (atI t0.2 v_at).bind fun y =>
  let v_cell : Int := y
  if (decide ((1000000000000000000 : Int) ≤ v_cell)) = true then (
    ck (divOk a_most) ((ixN (List.length t0.2) v_at).bind fun n =>
    let z : (List Int) := List.set t0.2 n (Int.fdiv v_cell a_most)
    ck (modOk a_most) (some ((Int.fmod v_cell a_most), (t0.1, z)))))
  else (
    let v_n : Int := (t0.1 + (1 : Int))
    ck (mulOk v_cell (48271 : Int)) (ck (mulOk v_n (69621 : Int)) (ck (modOk (2147483647 : Int)) (let v_mixed : Int := (Int.fmod ((v_cell * (48271 : Int)) + (v_n * (69621 : Int))) (2147483647 : Int))
    ck (mulOk v_mixed (16807 : Int)) (ck (mulOk v_n (7919 : Int)) (ck (modOk (1000000007 : Int)) (let v_mixed2 : Int := (Int.fmod ((v_mixed * (16807 : Int)) + (v_n * (7919 : Int))) (1000000007 : Int))
    ck (divOk (7 : Int)) (ck (modOk a_most) (some ((Int.fmod (Int.fdiv v_mixed2 (7 : Int)) a_most), (v_n, t0.2))))))))))))
theorem take_ok {t : TSt} {m : Int} (ht : t.2 ≠ []) (h0 : 0 < m) (h1 : m < 1073741824) : ∃ v t', takeM t m = some (v, t') ∧ 0 ≤ v ∧ v < m ∧ t'.2 ≠ [] := by
  have hl : 0 < t.2.length := List.length_pos_iff.2 ht
  have hl' : (0 : Int) < (t.2.length : Int) := by omega
  have a0 := Int.fmod_nonneg_of_pos t.1 hl'
  have a1 := Int.fmod_lt_of_pos t.1 hl'
  obtain ⟨k, hk, e, ea⟩ := atI_pos (xs := t.2) a0 a1
  unfold takeM
  rw [modOk_pos hl', ck_true]
  show ∃ v t', (atI t.2 (Int.fmod t.1 t.2.length)).bind _ = _ ∧ _
  rw [ea]
  show ∃ v t', (if (decide ((1000000000000000000 : Int) ≤ t.2[k])) = true then _ else _) = _ ∧ _
  by_cases c : (1000000000000000000 : Int) ≤ t.2[k]
  · rw [if_pos (decide_eq_true c), divOk_pos h0 h1, ck_true, e, ixN_nat hk]
    show ∃ v t', ck (modOk m) _ = _ ∧ _
    rw [modOk_pos h0, ck_true]
    refine ⟨_, _, rfl, Int.fmod_nonneg_of_pos _ h0, Int.fmod_lt_of_pos _ h0, fun z => ?_⟩
    exact ht (by simpa using z)
  · rw [if_neg (by simpa using c)]
    show ∃ v t', ck (mulOk _ 48271) (ck (mulOk _ 69621) (ck (modOk 2147483647) (ck (mulOk _ 16807) (ck (mulOk _ 7919) (ck (modOk 1000000007) (ck (divOk 7) (ck (modOk m) (some _)))))))) = _ ∧ _
    rw [mulOk_r (by decide) (by decide), mulOk_r (by decide) (by decide), mulOk_r (by decide) (by decide), mulOk_r (by decide) (by decide), modOk_pos (by decide), modOk_pos (by decide), divOk_pos (by decide) (by decide), modOk_pos h0]
    simp only [ck_true]
    exact ⟨_, _, rfl, Int.fmod_nonneg_of_pos _ h0, Int.fmod_lt_of_pos _ h0, ht⟩
theorem take_wp {Ω : Type} {t : TSt} {m : Int} {k : Int × TSt → Option Ω} {ω : Ω} (ht : t.2 ≠ []) (h0 : 0 < m) (h1 : m < 1073741824) (hk : ∀ v t', 0 ≤ v → v < m → t'.2 ≠ [] → k (v, t') = some ω) : (takeM t m).bind k = some ω := by
  obtain ⟨v, t', e, a, b, c⟩ := take_ok ht h0 h1
  exact bind_wp e (hk v t' a b c)
def stateM (a_script : List Int) : Option TSt :=
  compO (cutL a_script none (some (63 : Int))) () (fun x (t : Unit) kc => (
    kc (some (if x < 0 then -x else x)) ())) [] fun (ys : List Int) (t : Unit) => (
    let v_cells : (List Int) := ys
    let k := fun j : (List Int) => (
      some ((0 : Int), j))
    if (decide ((List.length v_cells : Int) = (0 : Int))) = true then (
      let v_cells2 : (List Int) := [(0 : Int)]
      k v_cells2)
    else (
      k v_cells))
theorem cutL_len {α : Type} (xs : List α) (a b : Option Int) : (cutL xs a b).length ≤ xs.length := by
  unfold cutL
  simp; omega
theorem state_ok {ns : List Int} (h : ns.length ≤ 63) : ∃ t, stateM ns = some t ∧ t.2 ≠ [] := by
  unfold stateM
  rw [compO_map (fun x : Int => if x < 0 then -x else x) () _ [] (by have := cutL_len ns none (some 63); show _ ≤ 16777216; simp; omega) (fun _ _ _ => rfl)]
  show ∃ t, (if decide _ = true then _ else _) = some t ∧ _
  split
  · exact ⟨_, rfl, by simp⟩
  · rename_i c
    exact ⟨_, rfl, fun z => c (decide_eq_true (by rw [show List.length _ = 0 from congrArg List.length z]; rfl))⟩
end Z

set_option Elab.async false
set_option linter.all false
set_option maxRecDepth 100000
namespace Z
open PySem PySem.Spec PyProof.Rows L2

/-! ### a list with parts of their own kinds, that is changed part by part -/
def lsR {τ : Type} (E : Enc τ) : Stor τ where
  rel := fun K F H fp v t => ∃ p vs ds, v = .ref p ∧ H p = some (.lst vs) ∧ E.enc t = .tuple ds ∧ RepAll K F vs ds ∧ fp = [p]
  monoF := fun s h => by
    obtain ⟨p, vs, ds, rfl, hp, e, r, rfl⟩ := h
    exact ⟨p, vs, ds, rfl, hp, e, r.mono s, rfl⟩
  frame := fun f h => by
    obtain ⟨p, vs, ds, rfl, hp, e, r, rfl⟩ := h
    exact ⟨p, vs, ds, rfl, by rw [f p List.mem_cons_self]; exact hp, e, r, rfl⟩
/-- another value at the n-th part -/
structure PartS (E : Enc τ) (n : Int) (E1 : Enc α) (u : τ → α → τ) : Prop where
  is : ∀ x y, ∃ ds j, E.enc x = .tuple ds ∧ ixN ds.length n = some j ∧ E.enc (u x y) = .tuple (ds.set j (E1.enc y))
theorem parts2_0 {A : Enc α} {B : Enc β} : PartS (eT2 A B) 0 A (fun x y => (y, x.2)) := ⟨fun _ _ => ⟨_, _, rfl, rfl, rfl⟩⟩
theorem parts2_1 {A : Enc α} {B : Enc β} : PartS (eT2 A B) 1 B (fun x y => (x.1, y)) := ⟨fun _ _ => ⟨_, _, rfl, rfl, rfl⟩⟩
theorem parts3_0 {γ : Type} {A : Enc α} {B : Enc β} {D : Enc γ} : PartS (eT3 A B D) 0 A (fun x y => (y, x.2)) := ⟨fun _ _ => ⟨_, _, rfl, rfl, rfl⟩⟩
theorem parts3_1 {γ : Type} {A : Enc α} {B : Enc β} {D : Enc γ} : PartS (eT3 A B D) 1 B (fun x y => (x.1, y, x.2.2)) := ⟨fun _ _ => ⟨_, _, rfl, rfl, rfl⟩⟩
theorem parts3_2 {γ : Type} {A : Enc α} {B : Enc β} {D : Enc γ} : PartS (eT3 A B D) 2 D (fun x y => (x.1, x.2.1, y)) := ⟨fun _ _ => ⟨_, _, rfl, rfl, rfl⟩⟩
theorem parts4_0 {γ δ : Type} {A : Enc α} {B : Enc β} {D : Enc γ} {D' : Enc δ} : PartS (eT4 A B D D') 0 A (fun x y => (y, x.2)) := ⟨fun _ _ => ⟨_, _, rfl, rfl, rfl⟩⟩
theorem parts4_1 {γ δ : Type} {A : Enc α} {B : Enc β} {D : Enc γ} {D' : Enc δ} : PartS (eT4 A B D D') 1 B (fun x y => (x.1, y, x.2.2)) := ⟨fun _ _ => ⟨_, _, rfl, rfl, rfl⟩⟩
theorem parts4_2 {γ δ : Type} {A : Enc α} {B : Enc β} {D : Enc γ} {D' : Enc δ} : PartS (eT4 A B D D') 2 D (fun x y => (x.1, x.2.1, y, x.2.2.2)) := ⟨fun _ _ => ⟨_, _, rfl, rfl, rfl⟩⟩
theorem parts4_3 {γ δ : Type} {A : Enc α} {B : Enc β} {D : Enc γ} {D' : Enc δ} : PartS (eT4 A B D D') 3 D' (fun x y => (x.1, x.2.1, x.2.2.1, y)) := ⟨fun _ _ => ⟨_, _, rfl, rfl, rfl⟩⟩
section
variable {X : Cx} {R I Ω : Type} {SR : Stor R} {envR : I → Env} {kr : R → I → Option Ω} {bk ct : Lp Ω} {env : Env} {nm : Str} {pos : Pos} {a b e : Expr} {xs : List Expr} {rest : List Stmt} {P A : Type} {J : Type} {envJ : J → Env} {e' : P → Env} {τ α : Type} {E : Enc τ} {E1 : Enc α}
/-- [a, 0, ..] -/
theorem lx_row {sl : A → Env} {fs : (A → P → Option Ω) → Option Ω} (h : LA X env xs sl e' fs) (E : Enc τ) (g : A → τ) (ds : A → List PyData) (hd : ∀ a, ShL (sl a) (ds a)) (he : ∀ a, E.enc (g a) = .tuple (ds a)) (hz : xs.length ≤ 1000 := by decide) (hz2 : ∀ a, (sl a).length = xs.length := by intro _; rfl) :
    LX X env (.List xs pos) (lsR E) e' (fun k => fs fun a p => k (g a) p) :=
  fun C F H σs es σ k ω Q hK hl hr hk q => tE.of X (pe_lst (paC X)) (h C F H σs es σ _ ω _ hK hl hr hk fun a p vs F' H' hk' hlv h' => by
    refine ⟨?_, fun t nt => ?_⟩
    · have := hz2 a; simp at hlv; exact Nat.le_of_lt (small1000 (by omega))
    · have r := (hd a).rep hlv h'
      exact q (g a) p (.ref t) F' _ hk' ((h'.popN hlv).newOw nt ⟨t, vs, ds a, rfl, upd_same, he a, r, rfl⟩))
/-- row[n] -/
theorem lx_rowAt {w : Option V} {t : τ} {n : Int} {g : τ → α} {p1 cp sp : Pos} {k : Nat} (i : Nat) (hp : Part E n E1 g) (he : env[i]? = some (.st w τ (lsR E) t)) (hi : X.N[i]? = some nm := by rfl) (hv_nm : Vis X.env.scope nm := by first | exact Or.inl rfl | exact Or.inr (Or.inl rfl) | exact Or.inr (Or.inr rfl)) (hd : (nm == ("__debug__" : Str)) = false := by decide) (hcd : (nm == ("__classdict__" : Str)) = false := by decide) :
    LX X env (.Subscript (.Name nm p1) (.Constant (.int n) k cp) sp) (it E1) (fun _ : Unit => env) (fun (k : α → Unit → Option Ω) => k (g t) ()) :=
  fun C F H σs es σ k ω Q hK hl h hk q => tE.of X (pe_ix ix_list (pe_var hi hv_nm hd hcd) pe_int fun _ _ => rfl) (by
    obtain ⟨v, fp, e1, p, vs, ds, rfl, h1, h2, h3, _⟩ := h.lookF hl he
    obtain ⟨ds', q1, q2⟩ := hp.is t
    rw [h2] at q1
    cases q1
    obtain ⟨u, hu, ru⟩ := h3.atD q2
    exact ⟨_, e1, p, vs, n, u, rfl, rfl, SqL.of h1, hu, q (g t) () u F H hk (h.pushSh ru)⟩)
/-- row[n] = e -/
theorem lb_setrow {f : (α → P → Option Ω) → Option Ω} {fr : α → P → (J → Option Ω) → Option Ω} {w : Option V} {t : P → τ} {n : Int} {u : τ → α → τ} {p1 cp sp : Pos} {k : Nat} (i : Nat) (hp : PartS E n E1 u) (he : LX X env e (it E1) e' f) (h1 : ∀ p, (e' p)[i]? = some (.st w τ (lsR E) (t p)))
    (hr : ∀ y p, LB X SR envR kr bk ct ((e' p).set i (.st w τ (lsR E) (u (t p) y))) rest envJ (fr y p)) (hi : X.N[i]? = some nm := by rfl) (hv_nm : Vis X.env.scope nm := by first | exact Or.inl rfl | exact Or.inr (Or.inl rfl) | exact Or.inr (Or.inr rfl)) (hd : (nm == ("__debug__" : Str)) = false := by decide) (hcd : (nm == ("__classdict__" : Str)) = false := by decide)
    (ha : ∀ v, assign (.Subscript (.Name nm p1) (.Constant (.int n) k cp) sp) X.env v = (do
      let ov ← holding [v] (eval (.Name nm p1) X.env)
      let iv ← holding [v, ov] (eval (.Constant (.int n) k cp) X.env)
      standAt sp
      holding [v, ov, iv] (setItem ov iv v)
      release [v, ov, iv] []) := by intro _; rfl)
    (hs : swapsWithSole [.Subscript (.Name nm p1) (.Constant (.int n) k cp) sp] e pos.line X.env = pure false := by rfl) (hw : swappedStores [.Subscript (.Name nm p1) (.Constant (.int n) k cp) sp] e X.env = pure none := by rfl) (ha1 : (assignEach [.Subscript (.Name nm p1) (.Constant (.int n) k cp) sp] X.env).map (·.2) = [assign (.Subscript (.Name nm p1) (.Constant (.int n) k cp) sp) X.env] := by rfl) :
    LB X SR envR kr bk ct env (.Assign [.Subscript (.Name nm p1) (.Constant (.int n) k cp) sp] e pos :: rest) envJ (fun kn => f fun y p => fr y p kn) :=
  fun C F H σs es σ kn ω D hK hl h hk qn qb qc qr => tSs.of X (pss_cons (ps_asg (peC X) (pg_sub (pe_var hi hv_nm hd hcd) pe_int set_list ha) hs hw ha1) (pssC X)) (he C F H σs es σ _ ω _ hK hl h hk fun y p v F' H' hk' h' => by
    have hvy : Rep C.K F' v (E1.enc y) := by
      obtain ⟨v', fp, e1, r⟩ := h'.look (i := 0) rfl
      simp at e1; subst e1
      exact r.2
    obtain ⟨l, fp, e1, r1, nd, ow, fin⟩ := (ER.pop h').mut (i := es.length + i) (by rw [at_app _ rfl]; exact h1 p)
    rw [at_app _ hl] at e1
    obtain ⟨p0, vs, ds, rfl, h2, h3, h4, rfl⟩ := r1
    obtain ⟨ds', j, q1, q2, q3⟩ := hp.is (t p) y
    rw [h3] at q1
    cases q1
    have hj : ixN vs.length n = some j := by rw [h4.length]; exact q2
    refine ⟨_, e1, p0, vs, n, j, rfl, rfl, h2, hj, ?_⟩
    have fin' := fin τ (lsR E) (u (t p) y) (upd H' p0 (.lst (vs.set j v))) [p0] (fun a na _ => upd_ne fun z => na (by rw [z]; simp)) (fun a m => ?_) ⟨p0, _, _, rfl, upd_same, q3, h4.set hvy, rfl⟩ (by simp) (fun a m => ?_)
    · rw [List.set_append_right _ _ (Nat.le_add_right _ _), Nat.add_sub_cancel_left] at fin'
      exact hr y p C F' _ σs es σ kn ω D hK hl fin' hk' qn qb qc qr
    · by_cases z : a = p0
      · subst z; rw [upd_same]; exact fun z => by cases z
      · rw [upd_ne z]; exact m
    · simp at m; subst m
      exact ⟨by rw [upd_same]; exact (fun z => by cases z), .inl (by simp)⟩)
variable {np tp : Pos} {f : (τ → P → Option Ω) → Option Ω}
theorem sqT_ty {K : Fg} {H : Hp} {p : Addr} {vs : List V} (h : SqT K H p vs) : TyX K H (.ref p) (.type "tuple") := by
  rcases h with (h | ⟨o, h⟩) | ⟨o, its, n, h1, h2, _⟩
  · exact .base (.tup h)
  · exact .fTuple h
  · exact .kTuple h1 h2
/-- isinstance(a, tuple) of a tuple -/
theorem lx_isT (hE : ∀ x, ∃ ds, E.enc x = .tuple ds) (hm1 : X.mg "isinstance" = none) (hm2 : X.mg "tuple" = none) (ha : LX X env a (it E) e' f) (hg1 : Gl X "isinstance" := by rfl) (hg2 : Gl X "tuple" := by rfl)
    (hs : starEach [a, .Name "tuple" tp] X.env = (false, eval a X.env) :: starEach [.Name "tuple" tp] X.env := by rfl) (hs2 : starEach [.Name "tuple" tp] X.env = (false, eval (.Name "tuple" tp) X.env) :: starEach [] X.env := by rfl) (hpl : (backTo pos (starEach [.Name "tuple" tp] X.env)).any (·.1) = false := by rfl) :
    LX X env (.Call (.Name "isinstance" np) [a, .Name "tuple" tp] [] pos) (it eB) e' (fun k => f fun _ p => k true p) :=
  fun C F H σs es σ k ω Q hK hl h hk q => tE.of X (pe_callB call_isi hg1 hm1 (by rfl) (pa_cons (peC X) (pa_cons (pe_bltn (v := .ty "tuple") (u := .type "tuple") hg2 hm2 (by rfl) rfl) pa_nil hs2) hs) (by decide) (by decide) hs hpl) (ha C F H σs es σ _ ω _ hK hl h hk fun x p v F' H' hk' h' => by
    obtain ⟨v', fp, e1, _, r⟩ := h'.look (i := 0) rfl
    simp at e1; subst e1
    obtain ⟨ds, e⟩ := hE x
    rw [e] at r
    obtain ⟨t, vs, rfl, h1, h2⟩ := r.tup_inv
    exact ⟨_, _, _, _, true, rfl, .ty "tuple", sqT_ty (by rw [← hK]; exact same_sqT h'.sF h1), by unfold PySem.W.kitOne; rw [if_pos (by decide)], q true p (.bl true) F' H' hk' (h'.pop.pushSh (.bl true))⟩)
/-- len of a tuple of parts -/
theorem lx_lenT {n : Nat} (hE : ∀ x, ∃ ds, E.enc x = .tuple ds ∧ ds.length = n) (hm : X.mg "len" = none) (ha : LX X env a (it E) e' f) (hg : Gl X "len" := by rfl) (he : starEach (a :: []) X.env = (false, eval a X.env) :: starEach [] X.env := by rfl) (hpl : (backTo pos (starEach [] X.env)).any (·.1) = false := by rfl) :
    LX X env (.Call (.Name "len" np) [a] [] pos) (it eI) e' (fun k => f fun _ p => k (n : Int) p) :=
  lx_b1t (G := fun _ => True) (E := eI) (g := fun _ : τ => (n : Int)) call_len_seq hm PySem.boot_len (lo_of ha) (fun _ => trivial) (fun K F H fp v x Q hK s r q => by
    obtain ⟨_, r⟩ := r
    obtain ⟨ds, e, hn⟩ := hE x
    rw [e] at r
    obtain ⟨t, vs, rfl, h1, h2⟩ := r.tup_inv
    have := h2.length
    exact ⟨t, vs, rfl, .inr (by rw [← hK]; exact same_sqT s h1), by rw [this, hn]; exact q _ (.int _)⟩) hg (by decide) (by decide) he hpl
end
end Z

set_option Elab.async false
set_option linter.all false
set_option maxRecDepth 100000
namespace Z
open PySem PySem.Spec PyProof.Rows L2

/-! ### pairs in their order; ranges; walks that gather -/
abbrev lpp : Int × Int → Int × Int → Bool := lt2 ltI ltI
theorem lpp_iff {x y : Int × Int} : lpp x y = true ↔ (x.1 < y.1 ∨ (x.1 = y.1 ∧ x.2 < y.2)) := by
  unfold lpp lt2 ltI
  by_cases c : x.1 = y.1
  · rw [if_pos c, decide_eq_true_eq]; omega
  · rw [if_neg c, decide_eq_true_eq]; omega
theorem lpp_no {x y : Int × Int} : lpp x y = false ↔ ¬(x.1 < y.1 ∨ (x.1 = y.1 ∧ x.2 < y.2)) := by rw [← lpp_iff]; simp
theorem minB_pp {l : List (Int × Int)} {m : Int × Int} (hm : m ∈ l) (h : ∀ y ∈ l, lpp y m = false) : minB lpp l = some m := by
  have key : ∀ (l : List (Int × Int)) (a : Int × Int), (l.foldl (fun a y => if lpp y a = true then y else a) a ∈ a :: l) ∧ ∀ y ∈ a :: l, lpp y (l.foldl (fun a y => if lpp y a = true then y else a) a) = false := by
    intro l
    induction l with
    | nil => intro a; refine ⟨by simp, fun y m => ?_⟩; simp at m; subst m; rw [List.foldl_nil, lpp_no]; omega
    | cons b l ih =>
      intro a
      rw [List.foldl_cons]
      by_cases c : lpp b a = true
      · rw [if_pos c]
        obtain ⟨i1, i2⟩ := ih b
        refine ⟨by rcases List.mem_cons.1 i1 with h | h <;> simp [h], fun y m => ?_⟩
        rcases List.mem_cons.1 m with rfl | m
        · have i3 := i2 b (by simp)
          rw [lpp_no] at i3 ⊢
          rw [lpp_iff] at c
          omega
        · exact i2 y m
      · rw [if_neg c]
        obtain ⟨i1, i2⟩ := ih a
        refine ⟨by rcases List.mem_cons.1 i1 with h | h <;> simp [h], fun y m => ?_⟩
        rcases List.mem_cons.1 m with rfl | m
        · exact i2 _ (by simp)
        · rcases List.mem_cons.1 m with rfl | m
          · have i3 := i2 a (by simp)
            have c' : lpp y a = false := by simpa using c
            rw [lpp_no] at i3 c' ⊢
            omega
          · exact i2 y (by simp [m])
  cases l with
  | nil => cases hm
  | cons a l =>
    obtain ⟨i1, i2⟩ := key l a
    show some _ = some m
    have h1 := h _ i1
    have h2 := i2 m hm
    rw [lpp_no] at h1 h2
    exact congrArg some (Prod.ext (by omega) (by omega))
theorem mem_range2 {lo hi x : Int} : x ∈ rangeL lo hi ↔ lo ≤ x ∧ x < hi := by
  unfold rangeL
  simp only [List.mem_map, List.mem_range]
  exact ⟨fun ⟨i, h, e⟩ => by omega, fun h => ⟨(x - lo).toNat, by omega, by omega⟩⟩
theorem rangeL_len {lo hi : Int} : (rangeL lo hi).length = (hi - lo).toNat := by simp [rangeL]
theorem rangeL_cons {lo hi : Int} (h : lo < hi) : ∃ r, rangeL lo hi = lo :: r := by
  unfold rangeL
  obtain ⟨n, hn⟩ : ∃ n, (hi - lo).toNat = n + 1 := ⟨(hi - lo).toNat - 1, by omega⟩
  rw [hn, List.range_succ_eq_map, List.map_cons]
  exact ⟨_, by simp; rfl⟩
theorem rangeL_snoc {lo hi : Int} (h : lo < hi) : ∃ r, rangeL lo hi = r ++ [hi - 1] := by
  unfold rangeL
  obtain ⟨n, hn⟩ : ∃ n, (hi - lo).toNat = n + 1 := ⟨(hi - lo).toNat - 1, by omega⟩
  rw [hn, List.range_succ, List.map_append]
  refine ⟨_, congrArg _ ?_⟩
  simp; omega
theorem rgOk_small {lo hi : Int} (h1 : -1000000 ≤ lo) (h2 : lo ≤ 1000000) (h3 : -1000000 ≤ hi) (h4 : hi ≤ 1000000) : rgOk lo hi = true := decide_eq_true ⟨by omega, by omega, by omega, by omega⟩
theorem atI_last {α : Type} {l : List α} {a : α} : atI (l ++ [a]) (-(1 : Int)) = some a := by
  unfold atI ixN
  rw [if_neg (by decide), if_pos (by simp; omega)]
  show (l ++ [a])[_]? = _
  have : (-(1 : Int) + ((l ++ [a]).length : Int)).toNat = l.length := by simp; omega
  rw [this]; simp
theorem forO_cat {α β Ω : Type} (f : α → List β) (m N : Nat) {b : α → List β → (List β → Option Ω) → Option Ω} {k : List β → Option Ω} : ∀ (xs : List α) (s : List β), s.length + xs.length * m ≤ N →
    (∀ x ∈ xs, (f x).length ≤ m ∧ ∀ s kc, s.length + m ≤ N → b x s kc = kc (s ++ f x)) → forO xs s b k = k (s ++ xs.flatMap f)
  | [], s, _, _ => by simp [forO]
  | x :: xs, s, hl, h => by
    obtain ⟨h1, h2⟩ := h x (List.mem_cons_self ..)
    rw [List.length_cons, Nat.add_mul, Nat.one_mul] at hl
    refine (h2 s _ (by omega)).trans ?_
    rw [forO_cat f m N xs (s ++ f x) (by rw [List.length_append]; omega) fun y k => h y (List.mem_cons_of_mem _ k), List.flatMap_cons, List.append_assoc]
/-- the cells of a rectangle, column by column -/
def grid (x0 x1 y0 y1 : Int) : List (Int × Int) := (rangeL x0 x1).flatMap fun c => (rangeL y0 y1).map fun r => (c, r)
theorem grid_first {x0 x1 y0 y1 : Int} (hx : x0 < x1) (hy : y0 < y1) : atI (grid x0 x1 y0 y1) 0 = some (x0, y0) := by
  obtain ⟨r, e⟩ := rangeL_cons hx
  obtain ⟨q, e2⟩ := rangeL_cons hy
  unfold grid
  rw [e, e2]
  simp only [List.flatMap_cons, List.map_cons, List.cons_append]
  exact Z.atI_nat (xs := (x0, y0) :: _) (i := 0) (by simp)
theorem grid_last {x0 x1 y0 y1 : Int} (hx : x0 < x1) (hy : y0 < y1) : atI (grid x0 x1 y0 y1) (-(1 : Int)) = some (x1 - 1, y1 - 1) := by
  obtain ⟨r, e⟩ := rangeL_snoc hx
  obtain ⟨q, e2⟩ := rangeL_snoc hy
  unfold grid
  rw [e, e2]
  simp only [List.flatMap_append, List.map_append, List.flatMap_cons, List.flatMap_nil, List.map_cons, List.map_nil, List.append_nil, ← List.append_assoc]
  exact atI_last
end Z

set_option Elab.async false
set_option linter.all false
set_option maxRecDepth 100000
namespace Z
open PySem PySem.Spec PyProof.Rows L2

/-! ### a def that is called where no repr is under way -/
/-- the promise of a def, where no repr is under way -/
structure FnG (P : Program) (w : World) (K : Fg) (mg : Str → Option Value) (base : Heap) (k : Nat) (f : Addr) (fd : FuncData) (ps : List Str) (sp : Sp) : Prop where
  go : ∀ (A : Around) (ou : List PySem.Env) (s : Shared) (H : Hp) (ar : Args) (us : List Value) (vs : List V) (Q : VK) (E : XK), A.guards = some [] → Room k A → Env0 P w K mg base A ou s H → BindsTo s fd ar (ps.zip us) → Vals vs us → sp vs H Q E → codeAny (model P w) A (.call (.ref f) ar) (CR CX0 ou P w H s Q E) s
section
variable {P : Program} {w : World} {K : Fg} {mg : Str → Option Value} {base : Heap}
theorem FnG.weak {k : Nat} {f : Addr} {fd : FuncData} {ps : List Str} {sp sp' : Sp} (G : FnG P w K mg base k f fd ps sp) (h : ∀ vs H Q E, sp' vs H Q E → sp vs H Q E) : FnG P w K mg base k f fd ps sp' :=
  ⟨fun A ou s H ar us vs Q E g hr e hb hv hs => G.go A ou s H ar us vs Q E g hr e hb hv (h _ _ _ _ hs)⟩
theorem fnG0 {x qual : Str} {st : Stmt} {f : Addr} {fd : FuncData} {N ps : List Str} {k : Nat} {sp : Sp} (F : Fun K x qual st f fd) (S : FnScope N ps (defScope st)) (len : ∀ vs H Q E, sp vs H Q E → vs.length = ps.length)
    (hb : ∀ (cdv : Value) (A : Around) (ou : List PySem.Env) (s : Shared) (H : Hp) (vs : List V) (Q : VK) (E : XK), A.guards = some [] → Room k (A.deeper (envOfC qual (defScope st) s.heap.objs.size f cdv)) → sp vs H Q E →
      ∃ t, PSs (cxOf CX0 P w K mg base N qual (defScope st) f cdv A ou s H E).nox (defBody st) t ∧ t { nx := fun _ H' => Q .non H', rt := Q } (L2.start N vs) H) : FnG P w K mg base (k + 1) f fd ps sp := by
  obtain ⟨oc, od, kV, doc, pm, an, cdv, ct, osl, rfl, lk, hcd⟩ := F.ex
  constructor
  intro A ou s H ar us vs Q E hg hr e0 hbd hv hsp
  have hKs : K.In s.heap := e0.mod.kin.keeps fun b o e => (e0.bs b o e).1
  have hnl : s.heap.NoLimit := e0.mod.nolimit.keeps fun b o e => (e0.bs b o e).1
  have kinds : ∀ y ∈ ps.zip us, (defScope st).names.lookup y.1 = some .local ∨ ((defScope st).names.lookup y.1 = some .cell ∧ ((cellsFrom (s.heap.objs.size + 1) (defScope st).names []).lookup y.1).isSome = true) := by
    rintro ⟨nme, va⟩ hy
    cases S.par nme (List.of_mem_zip hy).1 with
    | inl z => exact Or.inl z
    | inr z => exact Or.inr ⟨z, PySem.W.cellsFrom_some _ _ _ (Or.inl z)⟩
  refine codeAny_call_function hr.depth (hKs _ _ lk) rfl S.co S.gen rfl (PySem.W.codeRec_of hKs hcd) (hbd _ _ _ _ ?go)
  refine wpAny_newFunctionEnv_cells S.kind kinds fun en1 hen s1 x1 => ?_
  subst hen
  refine ⟨hnl.keeps x1.toInCall.keep, codeAny_func ?_⟩
  obtain ⟨t, ht, hq⟩ := hb cdv A ou s H vs Q E hg (hr.deeper _) hsp
  have inv : Inv (cxOf CX0 P w K mg base N qual (defScope st) f cdv A ou s H E) [] (L2.start N vs) H s1 := inv_start S hr.hd e0 (len _ _ _ _ hsp) hv x1
  have ht2 := ht.nox
  refine wpAny_mono (ht2.run [] s1 (L2.start N vs) H _ inv hq) (fun fl s2 hs2 => ?_) fun e s2 hs2 => hs2
  cases fl with
  | ret u =>
    obtain ⟨v, σ2, H2, J, rv, q⟩ := hs2
    exact ⟨v, H2, J.os, J.bare, J.base, J.hok, rv, q⟩
  | next =>
    obtain ⟨σ2, H2, J, q⟩ := hs2
    exact ⟨V.non, H2, J.os, J.bare, J.base, J.hok, rfl, q⟩
  | brk => exact False.elim hs2.choose_spec.choose_spec.2
  | cont => exact False.elim hs2.choose_spec.choose_spec.2
/-- .. by its body's derivation -/
theorem fnPG {x qual : Str} {st : Stmt} {f : Addr} {fd : FuncData} {N ps : List Str} {k : Nat} {A R : Type} {sl : A → Env} {SR : Stor R} {m : A → Option R} (F : Fun K x qual st f fd) (S : FnScope N ps (defScope st)) (n : Nat) (hn : N.length - ps.length = n) (hl : ∀ a, (sl a).length = ps.length)
    (hb : ∀ (cdv : Value) (A' : Around) (ou : List PySem.Env) (s : Shared) (H : Hp) (E : XK), (A'.deeper (envOfC qual (defScope st) s.heap.objs.size f cdv)).guards = some [] → Room k (A'.deeper (envOfC qual (defScope st) s.heap.objs.size f cdv)) → ∀ a : A,
      LB (cxOf CX0 P w K mg base N qual (defScope st) f cdv A' ou s H E).nox SR (fun _ : Unit => List.replicate (ps.length + n) .un) (fun (r : R) (_ : Unit) => some r) (noLp R) (noLp R) (sl a ++ List.replicate n .un) (defBody st) (fun z : Empty => z.elim) (fun _ => m a)) :
    FnG P w K mg base (k + 1) f fd ps (spP K sl SR m) := by
  have hlen : ∀ vs H Q E, spP K sl SR m vs H Q E → vs.length = ps.length := fun vs H Q E h => by
    obtain ⟨B, F0, a, r, _, h2, _⟩ := h
    rw [List.length_map] at h2; rw [h2, hl a]
  refine fnG0 F S hlen fun cdv A' ou s H vs Q E hg hr h => ?_
  have hlv := hlen vs H Q E h
  obtain ⟨B, F0, a, r, hm, _, her, q⟩ := h
  refine ⟨_, pssC _, ?_⟩
  have hst : L2.start N vs = vs.map some ++ List.replicate n none := by unfold L2.start; rw [hlv, hn]
  rw [hst]
  refine hb cdv A' ou s H E hg hr a ⟨K, B, F0, H, []⟩ F0 H [] [] _ (fun z => z.elim) r { nx := fun _ H' => Q .non H', rt := Q } rfl rfl (her.padR n) hm (fun z => z.elim) (fun z => z.elim) (fun z => z.elim) ?_
  intro a' i v F' H' σ' e h'
  cases e
  exact q F' H' v h'.head
/-- the call of the law's def from the claim's caller: nothing but the script is held -/
theorem lawG1 {mb : Str → Option Value} {k : Nat} {fa a : Addr} {fd : FuncData} {x : Str} {sp : Sp} {s1 : Shared} {vs : List Value} {H : Hp} (KX : K.In s1.heap) (hns : s1.heap.Ns mainGlobals mg) (hb : s1.heap.Ns builtinsNs mb) (hbb : ∀ y : Str, y ≠ "__name__" → mb y = bootBuiltins y) (hlim : s1.heap.NoLimit) (hg : s1.gens = #[])
    (ha : s1.heap.get? a = some { cls := .type "list", data := .seq vs.toArray }) (hr : Room k callerA) (F : ∀ bs : Heap, K.In bs → bs.Ns mainGlobals mg → FnG P w K mg bs k fa fd [x] sp) (hbind : ∀ (s : Shared) (u : Value), BindsTo s fd ⟨[u], []⟩ [(x, u)])
    (hO : Only H) (hsp : sp [.ref a] H (fun v _ => v = .bl true) fun _ _ _ => False) (hok : HOk P w H s1.heap) (hA : ∀ b, H b ≠ none → b = a) (hK : H a ≠ none → K.lookup a = none) :
    codeAny (model P w) callerA (.call (.ref fa) ⟨[.ref a], []⟩) (fun r s' => r = .ok (.ret (.bool true)) ∧ OldK s1.heap s'.heap ∧ s'.os = s1.os ∧ AllBare s'.gens) s1 := by
  have up : ∀ {c : Addr} {o : Obj}, s1.heap.get? c = some o → H c = none → (hidT s1.heap H).get? c = some o := fun e n => hidT_get e n
  have free : ∀ {c : Addr} {o : Obj} {es : Array DictEntry} {ep : Nat}, s1.heap.get? c = some o → o.data = .dict es ep → H c = none := by
    intro c o es ep e d
    rcases q : H c with _ | u
    · rfl
    · have hc : c = a := hA c (by rw [q]; exact fun z => by cases z)
      rw [hc, ha] at e
      cases e
      cases (show Data.seq vs.toArray _ = Data.dict es ep from d)
  have nsUp : ∀ {c : Addr} {m : Str → Option Value}, s1.heap.Ns c m → (hidT s1.heap H).Ns c m := fun ⟨o, es, ep, e, d, r⟩ => ⟨o, es, ep, up e (free e d), d, r⟩
  have inUp : K.In (hidT s1.heap H) := by
    intro c o e
    refine up (KX c o e) ?_
    rcases q : H c with _ | u
    · rfl
    · have hc : c = a := hA c (by rw [q]; exact fun z => by cases z)
      subst hc
      have := hK (by rw [q]; exact fun z => by cases z)
      rw [this] at e; cases e
  have md : Mod K mg (hidT s1.heap H) := ⟨inUp, nsUp hns, ⟨mb, nsUp hb, hbb⟩, by obtain ⟨mc, h1, h2⟩ := hlim; exact ⟨mc, nsUp h1, h2⟩⟩
  have ev : Env0 P w K mg (hidT s1.heap H) callerA [] s1 H := by
    refine ⟨rfl, md, fun c o e => of_hidT e, Nat.le_of_eq (hidT_size _ _), trivial, fun c hc => ?_, hok, .of_eq hg⟩
    cases (show c ∈ ([] : List Addr) from hc)
  have run := (F _ inUp (nsUp hns)).go callerA [] s1 H ⟨[.ref a], []⟩ [.ref a] [.ref a] _ _ rfl hr ev (hbind s1 (.ref a)) (.cons rfl .nil) hsp
  refine codeAny_mono run fun r s' h => ?_
  match r, h with
  | .error e, h => exact False.elim h
  | .ok .next, h => exact False.elim h
  | .ok .brk, h => exact False.elim h
  | .ok .cont, h => exact False.elim h
  | .ok (.ret u), h =>
    obtain ⟨v, H2, os, bare, un, hok2, rv, q⟩ := h
    have hv : v = .bl true := q
    rw [hv] at rv
    have hu : u = Value.bool true := rv
    refine ⟨by rw [hu], OldK.of_keep fun c o e => ?_, os, bare⟩
    rcases q2 : H c with _ | g
    · exact un.keep c o e q2 (fun z => by cases (show c ∈ ([] : List Addr) from z)) (by simp)
    · rcases hO c with z | ⟨ob, xs, z⟩
      · rw [q2] at z; cases z
      · have e1 := (hok c _ z).1
        have e2 := (hok2 c _ (un.frzs c ob _ z)).1
        rw [e] at e1; cases e1
        exact e2
theorem lawG {mb : Str → Option Value} {k : Nat} {fa a : Addr} {fd : FuncData} {x : Str} {sp : Sp} {s1 : Shared} {vs : List Value} {ns : List Int} (KX : K.In s1.heap) (hns : s1.heap.Ns mainGlobals mg) (hb : s1.heap.Ns builtinsNs mb) (hbb : ∀ y : Str, y ≠ "__name__" → mb y = bootBuiltins y) (hlim : s1.heap.NoLimit) (hg : s1.gens = #[])
    (ha : s1.heap.get? a = some { cls := .type "list", data := .seq vs.toArray }) (hi : IntsAre vs ns) (hl : ns.length ≤ sizeLine) (hr : Room k callerA) (F : ∀ bs : Heap, K.In bs → bs.Ns mainGlobals mg → FnG P w K mg bs k fa fd [x] sp) (hbind : ∀ (s : Shared) (u : Value), BindsTo s fd ⟨[u], []⟩ [(x, u)])
    (hsp : ∀ H : Hp, Only H → SqL K H a (ns.map V.int) → sp [.ref a] H (fun v _ => v = .bl true) fun _ _ _ => False) :
    codeAny (model P w) callerA (.call (.ref fa) ⟨[.ref a], []⟩) (fun r s' => r = .ok (.ret (.bool true)) ∧ OldK s1.heap s'.heap ∧ s'.os = s1.os ∧ AllBare s'.gens) s1 := by
  have rv := vals_ints hi
  have hlen := hi.length
  rcases hk : K.lookup a with _ | o
  · have hO : Only (fun c => if c = a then some (.frz { cls := .type "list", data := .seq vs.toArray } (.lst (ns.map V.int))) else none) := fun c => by
      by_cases z : c = a
      · exact .inr ⟨_, _, if_pos z⟩
      · exact .inl (if_neg z)
    refine lawG1 KX hns hb hbb hlim hg ha hr F hbind hO (hsp _ hO (.inl (.inr ⟨_, if_pos rfl⟩))) (fun c u z => ?_) (fun c z => ?_) (fun _ => hk)
    · by_cases q : c = a
      · rw [if_pos q] at z
        cases z
        rw [q]
        exact ⟨ha, by rw [List.length_map]; exact hl, vs, _, rv, ha⟩
      · rw [if_neg q] at z; cases z
    · by_cases q : c = a
      · exact q
      · exact absurd (if_neg q) z
  · have e := KX a o hk
    rw [ha] at e
    cases e
    refine lawG1 (H := fun _ => none) KX hns hb hbb hlim hg ha hr F hbind (fun _ => .inl rfl) (hsp _ (fun _ => .inl rfl) (.inr ⟨_, vs.toArray, _, hk, rfl, rfl, rfl, by rw [List.size_toArray, hlen]; exact hl, by simpa using rv⟩)) (fun c u z => by cases (show (none : Option HO) = some u from z)) (fun c z => absurd rfl z) (fun z => absurd rfl z)
end
theorem walkG {l : PySem.W.OpenLaw} {n k : Nat} {q : Program} {loose : List Str} {XP : (Str → Option Value) → Heap → Prop} {YP : World → Heap → Prop} {d : DefRec} {K : Params → Fg} {sp : World → Sp} {x : Str} (hn : l.most = some n) (hn2 : n ≤ sizeLine) (hdf : d.params.defaults = []) (hr : Room k callerA) (hY : ∀ (w : World) (h : Heap), YP w h → (K w.params).In h)
    (F : ∀ (w : World) (mg : Str → Option Value) (fa : Addr) (h : Heap), (K w.params).In h → h.Ns mainGlobals mg → mg d.name = some (.ref fa) → ∃ fd : FuncData, (∀ (s : Shared) (u : Value), BindsTo s fd ⟨[u], []⟩ [(x, u)]) ∧ ∀ bs : Heap, (K w.params).In bs → bs.Ns mainGlobals mg → FnG l.prog w (K w.params) mg bs k fa fd [x] (sp w))
    (hsp : ∀ (w : World) (H : Hp) (a : Addr) (ns : List Int), ns.length ≤ n → Only H → SqL (K w.params) H a (ns.map V.int) → sp w [.ref a] H (fun v _ => v = .bl true) fun _ _ _ => False) :
    PySem.W.WalkO q loose XP YP l.row.toRowW d [] (fun f vs => PySem.call f vs) := by
  refine Att.attach_call hn hdf fun w s0 s1 mg mb fa o pm cd doc a vs ns G Y ho hd hcd hmg hobj hints hlen hg => ?_
  obtain ⟨fd, hbd, hF⟩ := F w mg fa _ (hY w _ Y) G.T.g hmg
  exact lawG (hY w _ Y) G.T.g G.T.b G.T.builtins G.T.nolimit hg hobj hints (Nat.le_trans hlen hn2) hr hF hbd fun H hO hS => hsp w H a ns hlen hO hS
end Z

set_option Elab.async false
set_option linter.all false
set_option maxRecDepth 100000
namespace Z
open PySem PySem.Spec PyProof.Rows L2

/-! ### repr of data -/
def showOk (d : PyData) : Bool := d.canLay0 && d.showable && decide (d.depth ≤ 60) && decide (d.shown.length ≤ sizeLine)
/-- the text of a datum, where it can be told -/
def reprO (d : PyData) : Option Str := if showOk d = true then some d.shown else none
def rRepr (K : Fg) : List V → Hp → VK → Prop := fun vs H Q => ∃ (v : V) (d : PyData), vs = [v] ∧ Dp K H v d ∧ showOk d = true ∧ Q (.str d.shown) H
theorem cr_repr {X : Cx} (hg : X.A.guards = some []) (hu : X.A.units + 64 < cLine) : CallR X (.builtin "repr") (rRepr X.K) := by
  intro pins s σ H vs us Q I r h
  obtain ⟨v, d, rfl, hd, hs, q⟩ := h
  simp only [showOk, Bool.and_eq_true, decide_eq_true_eq] at hs
  obtain ⟨⟨⟨s1, s2⟩, s3⟩, s4⟩ := hs
  obtain ⟨u, rfl, rv⟩ := vals1 r
  obtain ⟨as, hr⟩ := Dp.reads I d v u hd rv
  have nodict : d.hasDict = true → sysModules ∉ as := PyData.noDict_hsm (PyData.hasDict_of_canLay d s1)
  cases hd with
  | non =>
    have e : u = .none := rv
    subst e
    exact PySem.P.repr_of_none ⟨.str _, H, I.tok _, ⟨_, by rw [PyData.shown]⟩, q⟩
  | bl b =>
    have e : u = .bool b := rv
    subst e
    exact PySem.P.repr_of_bool ⟨.str _, H, I.tok _, ⟨_, by rw [PyData.shown]⟩, q⟩
  | int i =>
    obtain ⟨t, rfl⟩ := rv
    exact PySem.P.repr_of_int (by simpa [PyData.showable] using s2) ⟨.str _, H, I.tok _, ⟨_, by rw [PyData.shown]⟩, q⟩
  | str x =>
    obtain ⟨t, rfl⟩ := rv
    exact PySem.P.repr_of_str ⟨.str _, H, I.tok _, ⟨_, by rw [PyData.shown]⟩, q⟩ (by rw [PyData.shown] at s4; exact s4)
  | lst h1 h2 =>
    have e := (show u = Value.ref _ from rv)
    subst e
    exact PySem.repr_of_reads' hr s2 nodict hg (by omega) (fun b o e => e) (fun h' u tk hk => ⟨.str _, H, I.kept hk, ⟨u, rfl⟩, q⟩) s4
  | tup h1 h2 =>
    have e := (show u = Value.ref _ from rv)
    subst e
    exact PySem.repr_of_reads' hr s2 nodict hg (by omega) (fun b o e => e) (fun h' u tk hk => ⟨.str _, H, I.kept hk, ⟨u, rfl⟩, q⟩) s4
section
variable {X : Cx} {Ω : Type} {env : Env} {pos np : Pos} {a : Expr} {P τ : Type} {S : Stor τ} {E : Enc τ} {e' : P → Env} {G : Env → Prop} {f : (τ → P → Option Ω) → Option Ω}
theorem lx_repr (hgd : X.A.guards = some []) (hu : X.A.units + 64 < cLine) (dv : Dv S E) (hm : X.mg "repr" = none) (ha : LO X G env a S e' f) (hG : ∀ p, G (e' p)) (hg : Gl X "repr" := by rfl) (he : starEach (a :: []) X.env = (false, eval a X.env) :: starEach [] X.env := by rfl) (hpl : (backTo pos (starEach [] X.env)).any (·.1) = false := by rfl) :
    LX X env (.Call (.Name "repr" np) [a] [] pos) (it eS) e' (fun k => f fun x p => (reprO (E.enc x)).bind fun y => k y p) :=
  lx_b1 (E := eS) (g := fun x : τ => reprO (E.enc x)) (cr_repr hgd hu) hm PyProof.Rows.boot_repr ha hG (fun K F H fp v x y Q hK s hy r q => by
    unfold reprO at hy
    by_cases c : showOk (E.enc x) = true
    · rw [if_pos c] at hy
      cases hy
      have hl : (E.enc x).canLay0 = true := by
        simp only [showOk, Bool.and_eq_true, decide_eq_true_eq] at c
        exact c.1.1.1
      exact ⟨v, E.enc x, rfl, by rw [← hK]; exact dv.dp s hl r, c, q _ (.str _)⟩
    · rw [if_neg c] at hy; cases hy) hg (by decide) (by decide) he hpl
end
section
variable {X : Cx} {Ω : Type} {env : Env} {pos : Pos} {a b : Expr} {P1 P2 : Type} {e1 : P1 → Env} {e2 : P1 → P2 → Env} {fa : (Str → P1 → Option Ω) → Option Ω} {fb : P1 → (Str → P2 → Option Ω) → Option Ω}
theorem lc_txt {op : CmpOp} {r : R2} {g : Str → Str → Bool} (ho : OpR X (compareOp op) r) (hr : ∀ i j H (Q : VK), Q (.bl (g i j)) H → r (.str i) (.str j) H Q) (ha : LX X env a (it eS) e1 fa) (hb : ∀ p1, LX X (e1 p1) b (it eS) (e2 p1) (fb p1)) :
    LC X env op a b (fun p : P1 × P2 => e2 p.1 p.2) (fun k => fa fun x p1 => fb p1 fun y p2 => k (g x y) (p1, p2)) :=
  lc_cmp ho (lo_of ha) (fun p1 => lo_of (hb p1)) (fun _ _ => trivial) (fun _ _ => trivial) fun K F H fp fq v u x y Q _ _ r1 r2 q => by
    obtain ⟨_, r1⟩ := r1
    obtain ⟨_, r2⟩ := r2
    cases r1; cases r2
    exact hr x y H Q q
theorem lc_eqS (ha : LX X env a (it eS) e1 fa) (hb : ∀ p1, LX X (e1 p1) b (it eS) (e2 p1) (fb p1)) : LC X env .Eq a b (fun p : P1 × P2 => e2 p.1 p.2) (fun k => fa fun x p1 => fb p1 fun y p2 => k (decide (x = y)) (p1, p2)) :=
  lc_txt op_eq (fun i j _ _ q => ⟨rfl, by simpa using q⟩) ha hb
theorem lc_neS (ha : LX X env a (it eS) e1 fa) (hb : ∀ p1, LX X (e1 p1) b (it eS) (e2 p1) (fb p1)) : LC X env .NotEq a b (fun p : P1 × P2 => e2 p.1 p.2) (fun k => fa fun x p1 => fb p1 fun y p2 => k (!decide (x = y)) (p1, p2)) :=
  lc_txt op_ne (fun i j _ _ q => ⟨rfl, by simpa using q⟩) ha hb
end
/-! ### in -/
def inB {τ : Type} [DecidableEq τ] (x : τ) (ys : List τ) : Bool := ys.any fun z => decide (z = x)
theorem inB_iff {τ : Type} [DecidableEq τ] {x : τ} {ys : List τ} : inB x ys = true ↔ x ∈ ys := by
  unfold inB
  rw [List.any_eq_true]
  exact ⟨fun ⟨z, hz, e⟩ => by rw [← of_decide_eq_true e]; exact hz, fun h => ⟨x, h, decide_eq_true rfl⟩⟩
section
variable {X : Cx} {Ω : Type} {env : Env} {a b : Expr} {P1 P2 τ1 : Type} {S1 : Stor τ1} {E1 : Enc τ1} {e1 : P1 → Env} {e2 : P1 → P2 → Env} {G1 : Env → Prop} {G2 : P1 → Env → Prop} {fa : (τ1 → P1 → Option Ω) → Option Ω}
theorem any_in [DecidableEq τ1] (ev : Ev E1) (x : τ1) (ys : List τ1) : ((ys.map E1.enc).any fun z => PyData.eqv z (E1.enc x)) = inB x ys := by
  rw [Bool.eq_iff_iff, inB_iff, List.any_eq_true]
  constructor
  · rintro ⟨z, hz, e⟩
    obtain ⟨y, hy, rfl⟩ := List.mem_map.1 hz
    rw [ev.eq, decide_eq_true_eq] at e
    rw [← e]; exact hy
  · intro h
    exact ⟨_, List.mem_map.2 ⟨x, h, rfl⟩, by rw [ev.eq]; exact decide_eq_true rfl⟩
theorem lc_inT [DecidableEq τ1] {S2 : Stor (List τ1)} {fb : P1 → (List τ1 → P2 → Option Ω) → Option Ω} {n : Nat} (hu : X.A.units + 65 < cLine) (d1 : Dv S1 E1) (d2 : Dv S2 (eL E1)) (t : Dt E1 n) (ev : Ev E1) (ha : LO X G1 env a S1 e1 fa) (hb : ∀ p1, LO X (G2 p1) (e1 p1) b S2 (e2 p1) (fb p1)) (g1 : ∀ p1 p2, G1 (e2 p1 p2)) (g2 : ∀ p1 p2, G2 p1 (e2 p1 p2)) (hn : n + 1 ≤ 64 := by decide) :
    LC X env .In a b (fun p : P1 × P2 => e2 p.1 p.2) (fun k => fa fun x p1 => fb p1 fun y p2 => k (inB x y) (p1, p2)) :=
  lc_cmp (op_inD hu) ha hb g1 g2 fun K F H fp fq v u x y Q hK s r1 r2 q => by
    subst hK
    exact ⟨_, _, d1.dp s (t.lay x) r1, d2.dp s ((dtL t).lay y) r2, shaped_of (t.lay x) (Nat.le_trans (t.dep x) (by omega)), shaped_of ((dtL t).lay y) (Nat.le_trans ((dtL t).dep y) hn), by rw [any_in ev]; exact q⟩
theorem lc_notInT [DecidableEq τ1] {S2 : Stor (List τ1)} {fb : P1 → (List τ1 → P2 → Option Ω) → Option Ω} {n : Nat} (hu : X.A.units + 65 < cLine) (d1 : Dv S1 E1) (d2 : Dv S2 (eL E1)) (t : Dt E1 n) (ev : Ev E1) (ha : LO X G1 env a S1 e1 fa) (hb : ∀ p1, LO X (G2 p1) (e1 p1) b S2 (e2 p1) (fb p1)) (g1 : ∀ p1 p2, G1 (e2 p1 p2)) (g2 : ∀ p1 p2, G2 p1 (e2 p1 p2)) (hn : n + 1 ≤ 64 := by decide) :
    LC X env .NotIn a b (fun p : P1 × P2 => e2 p.1 p.2) (fun k => fa fun x p1 => fb p1 fun y p2 => k (!inB x y) (p1, p2)) :=
  lc_cmp (op_notInD hu) ha hb g1 g2 fun K F H fp fq v u x y Q hK s r1 r2 q => by
    subst hK
    exact ⟨_, _, d1.dp s (t.lay x) r1, d2.dp s ((dtL t).lay y) r2, shaped_of (t.lay x) (Nat.le_trans (t.dep x) (by omega)), shaped_of ((dtL t).lay y) (Nat.le_trans ((dtL t).dep y) hn), by rw [any_in ev]; exact q⟩
end
end Z

set_option Elab.async false
set_option linter.all false
set_option maxRecDepth 100000
namespace Z
open PySem PySem.Spec PyProof.Rows L2

/-! ### spans (y, first, last) in plain words -/
abbrev Sp3 := Int × Int × Int
/-- x, y lies in a span -/
def InS (R : List Sp3) (x y : Int) : Prop := ∃ s ∈ R, s.1 = y ∧ s.2.1 ≤ x ∧ x ≤ s.2.2
/-- in order, with gaps -/
def Can (R : List Sp3) : Prop := (∀ s ∈ R, s.2.1 ≤ s.2.2) ∧ R.Pairwise fun s t => s.1 < t.1 ∨ (s.1 = t.1 ∧ s.2.2 + 1 < t.2.1)
theorem InS.nil {x y : Int} : ¬ InS [] x y := fun ⟨_, m, _⟩ => nomatch m
theorem InS.cons {s : Sp3} {R : List Sp3} {x y : Int} : InS (s :: R) x y ↔ (s.1 = y ∧ s.2.1 ≤ x ∧ x ≤ s.2.2) ∨ InS R x y := by
  constructor
  · rintro ⟨t, m, h⟩
    rcases List.mem_cons.1 m with rfl | m
    · exact .inl h
    · exact .inr ⟨t, m, h⟩
  · rintro (h | ⟨t, m, h⟩)
    · exact ⟨s, List.mem_cons_self .., h⟩
    · exact ⟨t, List.mem_cons_of_mem _ m, h⟩
theorem InS.app {R S : List Sp3} {x y : Int} : InS (R ++ S) x y ↔ InS R x y ∨ InS S x y := by
  constructor
  · rintro ⟨t, m, h⟩
    rcases List.mem_append.1 m with m | m
    · exact .inl ⟨t, m, h⟩
    · exact .inr ⟨t, m, h⟩
  · rintro (⟨t, m, h⟩ | ⟨t, m, h⟩)
    · exact ⟨t, List.mem_append_left _ m, h⟩
    · exact ⟨t, List.mem_append_right _ m, h⟩
theorem Can.tail {s : Sp3} {R : List Sp3} (h : Can (s :: R)) : Can R := ⟨fun t m => h.1 t (List.mem_cons_of_mem _ m), (List.pairwise_cons.1 h.2).2⟩
theorem Can.out {s : Sp3} {R : List Sp3} {x : Int} (h : Can (s :: R)) : InS R x s.1 → s.2.2 + 1 < x := by
  rintro ⟨t, m, e, a, b⟩
  rcases (List.pairwise_cons.1 h.2).1 t m with q | ⟨_, q⟩
  · omega
  · omega
theorem Can.head {s : Sp3} {R : List Sp3} {x y : Int} (h : Can (s :: R)) : InS (s :: R) x y → s.1 < y ∨ (s.1 = y ∧ s.2.1 ≤ x) := by
  rintro ⟨t, m, e, a, b⟩
  rcases List.mem_cons.1 m with rfl | m
  · exact .inr ⟨e, a⟩
  · have v := h.1 s (List.mem_cons_self ..)
    rcases (List.pairwise_cons.1 h.2).1 t m with q | ⟨q1, q⟩
    · exact .inl (by omega)
    · exact .inr ⟨by omega, by omega⟩
/-- one normal form for one set of cells -/
theorem Can.uniq : ∀ {R S : List Sp3}, Can R → Can S → (∀ x y, InS R x y ↔ InS S x y) → R = S
  | [], [], _, _, _ => rfl
  | [], t :: S, _, hS, h => absurd ((h t.2.1 t.1).2 ⟨t, List.mem_cons_self .., rfl, Int.le_refl _, hS.1 t (List.mem_cons_self ..)⟩) InS.nil
  | s :: R, [], hR, _, h => absurd ((h s.2.1 s.1).1 ⟨s, List.mem_cons_self .., rfl, Int.le_refl _, hR.1 s (List.mem_cons_self ..)⟩) InS.nil
  | s :: R, t :: S, hR, hS, h => by
    have vs := hR.1 s (List.mem_cons_self ..)
    have vt := hS.1 t (List.mem_cons_self ..)
    have a1 := hS.head ((h s.2.1 s.1).1 ⟨s, List.mem_cons_self .., rfl, Int.le_refl _, vs⟩)
    have a2 := hR.head ((h t.2.1 t.1).2 ⟨t, List.mem_cons_self .., rfl, Int.le_refl _, vt⟩)
    have e1 : s.1 = t.1 := by omega
    have e2 : s.2.1 = t.2.1 := by omega
    have e3 : s.2.2 = t.2.2 := by
      rcases Int.lt_trichotomy s.2.2 t.2.2 with q | q | q
      · have := (h (s.2.2 + 1) s.1).2 ⟨t, List.mem_cons_self .., e1.symm, by omega, by omega⟩
        rcases InS.cons.1 this with z | z
        · omega
        · have := hR.out z; omega
      · exact q
      · have := (h (t.2.2 + 1) t.1).1 ⟨s, List.mem_cons_self .., e1, by omega, by omega⟩
        rcases InS.cons.1 this with z | z
        · omega
        · have := hS.out z; omega
    have est : s = t := Prod.ext e1 (Prod.ext e2 e3)
    subst est
    rw [Can.uniq hR.tail hS.tail fun x y => ?_]
    have hh := h x y
    rw [InS.cons, InS.cons] at hh
    constructor
    · intro z
      rcases hh.1 (.inr z) with q | q
      · have := hR.out (x := x) (by rw [q.1]; exact z); omega
      · exact q
    · intro z
      rcases hh.2 (.inr z) with q | q
      · have := hS.out (x := x) (by rw [q.1]; exact z); omega
      · exact q
/-- one span more, behind all others in order of (y, first) -/
def stepJ (R : List Sp3) (s : Sp3) : List Sp3 := match R.getLast? with
  | some l => if l.1 = s.1 ∧ s.2.1 ≤ l.2.2 + 1 then R.dropLast ++ [(s.1, l.2.1, max l.2.2 s.2.2)] else R ++ [(s.1, s.2.1, s.2.2)]
  | none => R ++ [(s.1, s.2.1, s.2.2)]
/-- all of R begins at or ahead of (y, x) -/
def Ahead (R : List Sp3) (y x : Int) : Prop := ∀ t ∈ R, t.1 < y ∨ (t.1 = y ∧ t.2.1 ≤ x)
theorem stepJ_ok {R : List Sp3} {s : Sp3} (h : Can R) (v : s.2.1 ≤ s.2.2) (ha : Ahead R s.1 s.2.1) :
    Can (stepJ R s) ∧ (∀ x y, InS (stepJ R s) x y ↔ InS R x y ∨ (s.1 = y ∧ s.2.1 ≤ x ∧ x ≤ s.2.2)) ∧ Ahead (stepJ R s) s.1 s.2.1 ∧ (stepJ R s).length ≤ R.length + 1 := by
  have fresh : (∀ l, R.getLast? = some l → ¬ (l.1 = s.1 ∧ s.2.1 ≤ l.2.2 + 1)) → Can (R ++ [s]) ∧ (∀ x y, InS (R ++ [s]) x y ↔ InS R x y ∨ (s.1 = y ∧ s.2.1 ≤ x ∧ x ≤ s.2.2)) ∧ Ahead (R ++ [s]) s.1 s.2.1 ∧ (R ++ [s]).length ≤ R.length + 1 := fun hl => by
    refine ⟨⟨fun t m => ?_, List.pairwise_append.2 ⟨h.2, List.pairwise_singleton .., fun t m u mu => ?_⟩⟩, fun x y => ?_, fun t m => ?_, by simp⟩
    · rcases List.mem_append.1 m with m | m
      · exact h.1 t m
      · rw [List.mem_singleton] at m; subst m; exact v
    · rw [List.mem_singleton] at mu; subst mu
      rcases ha t m with q | ⟨q1, q2⟩
      · exact .inl q
      · refine .inr ⟨q1, ?_⟩
        -- t is no later than the last
        rcases List.eq_nil_or_concat R with e | ⟨R', l, e⟩
        · subst e; cases m
        · subst e
          have nl := hl l (by simp)
          rw [List.concat_eq_append] at m h
          rcases List.mem_append.1 m with m | m
          · have o := (List.pairwise_append.1 h.2).2.2 t m l (by simp)
            have vl := h.1 l (by simp)
            have al := ha l (by simp)
            omega
          · rw [List.mem_singleton] at m; subst m
            omega
    · rw [InS.app, InS.cons]
      constructor
      · rintro (q | q | q)
        · exact .inl q
        · exact .inr q
        · exact absurd q InS.nil
      · rintro (q | q)
        · exact .inl q
        · exact .inr (.inl q)
    · rcases List.mem_append.1 m with m | m
      · exact ha t m
      · rw [List.mem_singleton] at m; subst m; exact .inr ⟨rfl, Int.le_refl _⟩
  unfold stepJ
  rcases List.eq_nil_or_concat R with e | ⟨R', l, e⟩
  · subst e
    exact fresh fun l z => by simp at z
  · subst e
    rw [List.concat_eq_append] at h ha fresh ⊢
    rw [show (R' ++ [l]).getLast? = some l by simp]
    dsimp only
    by_cases c : l.1 = s.1 ∧ s.2.1 ≤ l.2.2 + 1
    · rw [if_pos c, show (R' ++ [l]).dropLast = R' by simp]
      have vl := h.1 l (by simp)
      have al := ha l (by simp)
      have pw := List.pairwise_append.1 h.2
      refine ⟨⟨fun t m => ?_, List.pairwise_append.2 ⟨pw.1, List.pairwise_singleton .., fun t m u mu => ?_⟩⟩, fun x y => ?_, fun t m => ?_, by simp⟩
      · rcases List.mem_append.1 m with m | m
        · exact h.1 t (by simp [m])
        · rw [List.mem_singleton] at m; subst m; dsimp only; omega
      · rw [List.mem_singleton] at mu; subst mu
        have := pw.2.2 t m l (by simp)
        dsimp only; omega
      · rw [InS.app, InS.app, InS.cons, InS.cons]
        dsimp only
        constructor
        · rintro (q | q | q)
          · exact .inl (.inl q)
          · by_cases z : x ≤ l.2.2
            · exact .inl (.inr (.inl (by omega)))
            · exact .inr (by omega)
          · exact absurd q InS.nil
        · rintro ((q | q | q) | q)
          · exact .inl q
          · exact .inr (.inl (by omega))
          · exact absurd q InS.nil
          · exact .inr (.inl (by omega))
      · rcases List.mem_append.1 m with m | m
        · exact ha t (by simp [m])
        · rw [List.mem_singleton] at m; subst m; exact .inr ⟨rfl, by dsimp only; omega⟩
    · rw [if_neg c]
      exact fresh fun l' z => by simp at z; subst z; exact c
/-- a row of spans in order of (y, first): all of them, in normal form -/
theorem foldJ_ok : ∀ (L R : List Sp3), Can R → (∀ s ∈ L, s.2.1 ≤ s.2.2) → (∀ s ∈ L, Ahead R s.1 s.2.1) → L.Pairwise (fun s t => s.1 < t.1 ∨ (s.1 = t.1 ∧ s.2.1 ≤ t.2.1)) →
    Can (L.foldl stepJ R) ∧ (∀ x y, InS (L.foldl stepJ R) x y ↔ InS R x y ∨ InS L x y) ∧ (L.foldl stepJ R).length ≤ R.length + L.length
  | [], R, h, _, _, _ => ⟨h, fun x y => ⟨.inl, fun z => z.elim id fun q => absurd q InS.nil⟩, by simp⟩
  | s :: L, R, h, hv, ha, hp => by
    obtain ⟨p1, p2⟩ := List.pairwise_cons.1 hp
    obtain ⟨s1, s2, s3, s4⟩ := stepJ_ok h (hv s (List.mem_cons_self ..)) (ha s (List.mem_cons_self ..))
    obtain ⟨i1, i2, i3⟩ := foldJ_ok L (stepJ R s) s1 (fun t m => hv t (List.mem_cons_of_mem _ m)) (fun t m u mu => by
      have a := s3 u mu
      have b := p1 t m
      omega) p2
    refine ⟨i1, fun x y => ?_, by rw [List.length_cons]; show (L.foldl stepJ (stepJ R s)).length ≤ _; omega⟩
    show InS (L.foldl stepJ (stepJ R s)) x y ↔ _
    rw [i2, s2, InS.cons]
    constructor
    · rintro ((q | q) | q)
      · exact .inl q
      · exact .inr (.inl q)
      · exact .inr (.inr q)
    · rintro (q | q | q)
      · exact .inl (.inl q)
      · exact .inl (.inr q)
      · exact .inr q
end Z

set_option Elab.async false
set_option linter.all false
set_option maxRecDepth 100000
namespace Z
open PySem PySem.Spec PyProof.Rows L2

/-! ### sorting of pairs and triples; walks that grow -/
theorem forO_grow {α β Ω : Type} (g : List β → α → List β) (N : Nat) (hg : ∀ s x, (g s x).length ≤ s.length + 1) {b : α → List β → (List β → Option Ω) → Option Ω} {k : List β → Option Ω} : ∀ (xs : List α) (s : List β), s.length + xs.length ≤ N →
    (∀ x ∈ xs, ∀ s kc, s.length + 1 ≤ N → b x s kc = kc (g s x)) → forO xs s b k = k (xs.foldl g s)
  | [], s, _, _ => rfl
  | x :: xs, s, hl, h => by
    rw [List.length_cons] at hl
    refine (h x (List.mem_cons_self ..) s _ (by omega)).trans ?_
    have := hg s x
    exact forO_grow g N hg xs (g s x) (by omega) fun y m => h y (List.mem_cons_of_mem _ m)
theorem lt3_no {x y : Sp3} : lt3 ltI ltI ltI x y = false ↔ ¬(x.1 < y.1 ∨ (x.1 = y.1 ∧ (x.2.1 < y.2.1 ∨ (x.2.1 = y.2.1 ∧ x.2.2 < y.2.2)))) := by
  unfold lt3 ltI
  by_cases c : x.1 = y.1
  · rw [if_pos c]
    by_cases d : x.2.1 = y.2.1
    · rw [if_pos d, decide_eq_false_iff_not]; omega
    · rw [if_neg d, decide_eq_false_iff_not]; omega
  · rw [if_neg c, decide_eq_false_iff_not]; omega
theorem lt3_yes {x y : Sp3} : lt3 ltI ltI ltI x y = true ↔ (x.1 < y.1 ∨ (x.1 = y.1 ∧ (x.2.1 < y.2.1 ∨ (x.2.1 = y.2.1 ∧ x.2.2 < y.2.2)))) := by
  rw [← Bool.not_eq_false, lt3_no]
  exact Classical.not_not
theorem sort3_pw (l : List Sp3) : (sortB (lt3 ltI ltI ltI) l).Pairwise fun s t => s.1 < t.1 ∨ (s.1 = t.1 ∧ s.2.1 ≤ t.2.1) := by
  have := List.pairwise_mergeSort (le := fun x y : Sp3 => !lt3 ltI ltI ltI y x) (fun a b c h1 h2 => by
    simp only [Bool.not_eq_true'] at h1 h2 ⊢
    rw [lt3_no] at h1 h2 ⊢; omega) (fun a b => by
    cases h : lt3 ltI ltI ltI b a with
    | false => rfl
    | true =>
      have : lt3 ltI ltI ltI a b = false := by
        rw [lt3_yes] at h; rw [lt3_no]; omega
      rw [this]; rfl) l
  exact this.imp fun {a b} h => by
    have h' : lt3 ltI ltI ltI b a = false := by simpa using h
    rw [lt3_no] at h'; omega
theorem sort2_pw (l : List (Int × Int)) : (sortB lpp l).Pairwise fun s t => s.1 < t.1 ∨ (s.1 = t.1 ∧ s.2 ≤ t.2) := by
  have := List.pairwise_mergeSort (le := fun x y : Int × Int => !lpp y x) (fun a b c h1 h2 => by
    simp only [Bool.not_eq_true'] at h1 h2 ⊢
    rw [lpp_no] at h1 h2 ⊢; omega) (fun a b => by
    cases h : lpp b a with
    | false => rfl
    | true =>
      have : lpp a b = false := by
        rw [lpp_iff] at h; rw [lpp_no]; omega
      rw [this]; rfl) l
  exact this.imp fun {a b} h => by
    have h' : lpp b a = false := by simpa using h
    rw [lpp_no] at h'; omega
theorem sortB_mem {α : Type} {lt : α → α → Bool} {l : List α} {x : α} : x ∈ sortB lt l ↔ x ∈ l := (List.mergeSort_perm _ _).mem_iff
theorem sortB_len {α : Type} {lt : α → α → Bool} {l : List α} : (sortB lt l).length = l.length := (List.mergeSort_perm _ _).length_eq
theorem InS.same {R S : List Sp3} (h : ∀ s, s ∈ R ↔ s ∈ S) {x y : Int} : InS R x y ↔ InS S x y :=
  ⟨fun ⟨s, m, q⟩ => ⟨s, (h s).1 m, q⟩, fun ⟨s, m, q⟩ => ⟨s, (h s).2 m, q⟩⟩
theorem Can.nil : Can [] := ⟨fun _ m => (nomatch m), List.Pairwise.nil⟩
/-- the normal form of any spans -/
theorem norm_ok {L : List Sp3} (hv : ∀ s ∈ L, s.2.1 ≤ s.2.2) : Can ((sortB (lt3 ltI ltI ltI) L).foldl stepJ []) ∧ (∀ x y, InS ((sortB (lt3 ltI ltI ltI) L).foldl stepJ []) x y ↔ InS L x y) ∧ ((sortB (lt3 ltI ltI ltI) L).foldl stepJ []).length ≤ L.length := by
  obtain ⟨a, b, c⟩ := foldJ_ok (sortB (lt3 ltI ltI ltI) L) [] Can.nil (fun s m => hv s (sortB_mem.1 m)) (fun s _ t m => nomatch m) (sort3_pw L)
  refine ⟨a, fun x y => ?_, by rw [sortB_len] at c; simpa using c⟩
  rw [b, InS.same (fun s => sortB_mem)]
  exact ⟨fun z => z.elim (fun q => absurd q InS.nil) id, .inr⟩
/-- of cells, told as (y, x) -/
def spanOf (p : Int × Int) : Sp3 := (p.1, p.2, p.2)
theorem cells_ok {L : List (Int × Int)} : Can (((sortB lpp (L.map fun c => (c.2, c.1))).map spanOf).foldl stepJ []) ∧ (∀ x y, InS (((sortB lpp (L.map fun c => (c.2, c.1))).map spanOf).foldl stepJ []) x y ↔ (x, y) ∈ L) ∧ (((sortB lpp (L.map fun c => (c.2, c.1))).map spanOf).foldl stepJ []).length ≤ L.length := by
  obtain ⟨a, b, c⟩ := foldJ_ok ((sortB lpp (L.map fun c => (c.2, c.1))).map spanOf) [] Can.nil (fun s m => by
    obtain ⟨p, _, rfl⟩ := List.mem_map.1 m; exact Int.le_refl _) (fun s _ t m => nomatch m) (List.pairwise_map.2 ((sort2_pw _).imp fun h => h))
  refine ⟨a, fun x y => ?_, by rw [List.length_map, sortB_len, List.length_map] at c; simpa using c⟩
  rw [b]
  constructor
  · rintro (q | ⟨s, m, q⟩)
    · exact absurd q InS.nil
    · obtain ⟨p, mp, rfl⟩ := List.mem_map.1 m
      obtain ⟨d, md, rfl⟩ := List.mem_map.1 (sortB_mem.1 mp)
      have e : d = (x, y) := by
        simp only [spanOf] at q
        exact Prod.ext (by show d.1 = x; omega) q.1
      rw [← e]; exact md
  · intro m
    exact .inr ⟨(y, x, x), List.mem_map.2 ⟨(y, x), sortB_mem.2 (List.mem_map.2 ⟨(x, y), m, rfl⟩), rfl⟩, rfl, Int.le_refl _, Int.le_refl _⟩
theorem stepJ_len (R : List Sp3) (s : Sp3) : (stepJ R s).length ≤ R.length + 1 := by
  unfold stepJ
  rcases List.eq_nil_or_concat R with e | ⟨R', l, e⟩
  · subst e; simp
  · subst e
    rw [List.concat_eq_append, show (R' ++ [l]).getLast? = some l by simp]
    dsimp only
    split <;> simp
theorem ixN_last {α : Type} {l : List α} {a : α} : ixN (l ++ [a]).length (-(1 : Int)) = some l.length := by
  unfold ixN
  rw [if_neg (by decide), if_pos (by simp; omega)]
  have : (-(1 : Int) + ((l ++ [a]).length : Int)).toNat = l.length := by simp; omega
  rw [this]
theorem set_last {α : Type} {l : List α} {a b : α} : (l ++ [a]).set l.length b = l ++ [b] := by
  rw [List.set_append_right _ _ (Nat.le_refl _), Nat.sub_self]; rfl
/-- how the last of a row is looked at: the program's way -/
theorem stepJ_run {Ω : Type} {t : List Sp3} {x : Sp3} {kc : List Sp3 → Option Ω} (hl : t.length + 1 ≤ SZ) :
    (if (decide ((0 : Int) < (List.length t : Int))) = true then ((atI t (-(1 : Int))).bind fun y69 =>
      if (decide (y69.1 = x.1)) = true then ((atI t (-(1 : Int))).bind fun y75 =>
        if (decide (x.2.1 ≤ (y75.2.2 + (1 : Int)))) = true then ((atI t (-(1 : Int))).bind fun y83 =>
          (atI t (-(1 : Int))).bind fun y86 =>
          (ixN (List.length t) (-(1 : Int))).bind fun n94 => kc (List.set t n94 (x.1, y83.2.1, (max y86.2.2 x.2.2))))
        else ck (decide (List.length t < SZ)) (kc (t ++ [(x.1, x.2.1, x.2.2)])))
      else (if false = true then ((atI t (-(1 : Int))).bind fun y83 =>
          (atI t (-(1 : Int))).bind fun y86 =>
          (ixN (List.length t) (-(1 : Int))).bind fun n94 => kc (List.set t n94 (x.1, y83.2.1, (max y86.2.2 x.2.2)))) else ck (decide (List.length t < SZ)) (kc (t ++ [(x.1, x.2.1, x.2.2)]))))
    else (if false = true then ((atI t (-(1 : Int))).bind fun y83 =>
          (atI t (-(1 : Int))).bind fun y86 =>
          (ixN (List.length t) (-(1 : Int))).bind fun n94 => kc (List.set t n94 (x.1, y83.2.1, (max y86.2.2 x.2.2)))) else ck (decide (List.length t < SZ)) (kc (t ++ [(x.1, x.2.1, x.2.2)])))) = kc (stepJ t x) := by
  rw [decide_eq_true (show t.length < SZ by omega), ck_true]
  unfold stepJ
  rcases List.eq_nil_or_concat t with e | ⟨R', l, e⟩
  · subst e; rfl
  · subst e
    rw [List.concat_eq_append, show (R' ++ [l]).getLast? = some l by simp, show (R' ++ [l]).dropLast = R' by simp, if_pos (decide_eq_true (show (0 : Int) < ((R' ++ [l]).length : Int) by rw [List.length_append, List.length_singleton]; omega)), atI_last, ixN_last]
    simp only [Option.bind_some, set_last]
    by_cases c : l.1 = x.1
    · by_cases d : x.2.1 ≤ l.2.2 + 1
      · rw [if_pos (decide_eq_true c), if_pos (decide_eq_true d), if_pos ⟨c, d⟩]
      · rw [if_pos (decide_eq_true c), if_neg (by simpa using d), if_neg (fun z => d z.2)]
    · rw [if_neg (show ¬ (decide (l.1 = x.1) = true) from fun z => c (of_decide_eq_true z)), if_neg (show ¬ (false = true) by decide), if_neg (show ¬ (l.1 = x.1 ∧ x.2.1 ≤ l.2.2 + 1) from fun z => c z.1)]
end Z

set_option Elab.async false
set_option linter.all false
set_option maxRecDepth 100000
namespace Z
open PySem PySem.Spec PyProof.Rows L2

/-! ### an own list read as data -/
theorem RelAll.asD {α : Type} {E : Enc α} {K : Fg} {F H : Hp} : ∀ {fps : List Addr} {vs : List V} {xs : List α}, RelAll ((it E).rel K F H) fps vs xs → RelAll ((it eD).rel K F H) fps vs (xs.map E.enc)
  | _, _, _, .nil => .nil
  | _, _, _, .cons h r => .cons h (RelAll.asD r)
section
variable {X : Cx} {R I Ω : Type} {SR : Stor R} {envR : I → Env} {kr : R → I → Option Ω} {bk ct : Lp Ω} {env : Env} {sts : List Stmt} {J : Type} {envJ : J → Env}
theorem lb_asD {f : (J → Option Ω) → Option Ω} {w : Option V} {α : Type} {E : Enc α} {xs : List α} (i : Nat) (he : env[i]? = some (.st w (List α) (ls (it E)) xs))
    (hr : LB X SR envR kr bk ct (env.set i (.st w (List PyData) (ls (it eD)) (xs.map E.enc))) sts envJ f) : LB X SR envR kr bk ct env sts envJ f :=
  fun C F H σs es σ kn ω D hK hl h hk qn qb qc qr => by
    obtain ⟨v, fp, e1, r, nd, ow, fin⟩ := h.mut (i := es.length + i) (by rw [at_app _ rfl]; exact he)
    obtain ⟨p, vs, fps, rfl, hp, ra, rfl⟩ := r
    have h2 := fin (List PyData) (ls (it eD)) (xs.map E.enc) H (p :: fps) (fun _ _ _ => rfl) (fun _ m => m) ⟨p, vs, fps, rfl, hp, ra.asD, rfl⟩ nd fun a m => ⟨(ow a m).2.2, .inl m⟩
    rw [List.set_append_right _ _ (Nat.le_add_right _ _), Nat.add_sub_cancel_left] at h2
    exact hr C F H σs es σ kn ω D hK hl h2 hk qn qb qc qr
end
/-! ### xs[::-1], order of tuples of ints -/
theorem RepAll.rev {K : Fg} {F : Hp} : ∀ {vs : List V} {ds : List PyData}, RepAll K F vs ds → RepAll K F vs.reverse ds.reverse
  | _, _, .nil => .nil
  | _, _, .cons h r => by
    rw [List.reverse_cons, List.reverse_cons]
    exact (RepAll.rev r).app (.cons h .nil)
section
variable {X : Cx} {Ω : Type} {env : Env} {pos p2 p3 p4 : Pos} {a b : Expr} {P P1 P2 τ α : Type} {S : Stor τ} {E : Enc α} {e' : P → Env} {g : τ → List α} {f : (τ → P → Option Ω) → Option Ω}
theorem lx_rev {k : Nat} (hv : LVw S (it E) g) (ha : LX X env a S e' f) : LX X env (.Subscript a (.Slice none none (some (.UnaryOp .USub (.Constant (.int 1) k p2) p3)) p4) pos) (ls (it E)) e' (fun kk => f fun x p => kk (g x).reverse p) :=
  fun C F H σs es σ k ω Q hK hl h hk q => tE.of X (pe_revL (peC X)) (lo_run (lo_of ha) (fun _ => trivial) hK hl h hk fun x p v F' H' fp hk' h' r => by
    obtain ⟨t0, vs, fps, rfl, l1, ra⟩ := hv.view h'.sF r
    have rr := ra.zero.2.rev
    rw [← List.map_reverse] at rr
    exact ⟨t0, vs, rfl, by rw [← hK]; exact l1, fun t nt => q _ p (.ref t) F' _ hk' (h'.newOw nt ⟨t, _, [], rfl, upd_same, rr.zero, rfl⟩)⟩)
end
def le3 (x y : Int × Int × Int) : Bool := if x.1 = y.1 then (if x.2.1 = y.2.1 then (if x.2.2 = y.2.2 then true else decide (x.2.2 ≤ y.2.2)) else decide (x.2.1 ≤ y.2.1)) else decide (x.1 ≤ y.1)
section
variable {X : Cx} {Ω : Type} {env : Env} {pos : Pos} {a b : Expr} {P1 P2 : Type} {e1 : P1 → Env} {e2 : P1 → P2 → Env} {fa : (Int × Int × Int → P1 → Option Ω) → Option Ω} {fb : P1 → (Int × Int × Int → P2 → Option Ω) → Option Ω}
theorem rep_t3 {K : Fg} {F H : Hp} {v : V} {x : Int × Int × Int} (s : Same F H) (h : Rep K F v ((eT3 eI eI eI).enc x)) : ∃ p, v = .ref p ∧ SqT K H p ([x.1, x.2.1, x.2.2].map V.int) := by
  obtain ⟨p, vs, rfl, h1, h2⟩ := Rep.tup_inv (ds := [.int x.1, .int x.2.1, .int x.2.2]) h
  have h3 : RepAll K F vs ([x.1, x.2.1, x.2.2].map eI.enc) := h2
  rw [h3.ints] at h1
  exact ⟨p, rfl, same_sqT s h1⟩
theorem lc_le3 (hu : X.A.units + 64 < cLine) (ha : LX X env a (it (eT3 eI eI eI)) e1 fa) (hb : ∀ p1, LX X (e1 p1) b (it (eT3 eI eI eI)) (e2 p1) (fb p1)) :
    LC X env .LtE a b (fun p : P1 × P2 => e2 p.1 p.2) (fun k => fa fun x p1 => fb p1 fun y p2 => k (le3 x y) (p1, p2)) :=
  lc_cmp (op_leT (by omega)) (lo_of ha) (fun p1 => lo_of (hb p1)) (fun _ _ => trivial) (fun _ _ => trivial) fun K F H fp fq v u x y Q hK s r1 r2 q => by
    subst hK
    obtain ⟨p, rfl, h1⟩ := rep_t3 s r1.2
    obtain ⟨p', rfl, h2⟩ := rep_t3 s r2.2
    refine ⟨p, p', _, _, rfl, rfl, h1, h2, ?_⟩
    have e : le3 x y = Ob.lexAt (fun j => decide ([x.1, x.2.1, x.2.2].getD j 0 = [y.1, y.2.1, y.2.2].getD j 0)) (fun j => decide ([x.1, x.2.1, x.2.2].getD j 0 ≤ [y.1, y.2.1, y.2.2].getD j 0)) (decide ([x.1, x.2.1, x.2.2].length ≤ [y.1, y.2.1, y.2.2].length)) 0 (min [x.1, x.2.1, x.2.2].length [y.1, y.2.1, y.2.2].length) := by
      show _ = Ob.lexAt _ _ _ 0 3
      rw [Ob.lexAt_succ, Ob.lexAt_succ, Ob.lexAt_succ, Ob.lexAt_zero]
      unfold le3
      simp
    rw [← e]; exact q
end
end Z

set_option Elab.async false
set_option linter.all false
set_option maxRecDepth 100000
namespace Z
open PySem PySem.Spec PyProof.Rows L2

/-! ### what data are, read back -/
structure Dec {τ : Type} (E : Enc τ) (g : PyData → Option τ) : Prop where
  ok : ∀ d x, g d = some x → E.enc x = d
  rt : ∀ x, g (E.enc x) = some x
def deI : PyData → Option Int | .int i => some i | _ => none
def deB : PyData → Option Bool | .bool i => some i | _ => none
def deS : PyData → Option Str | .str i => some i | _ => none
def deN : PyData → Option Unit | .none => some () | _ => none
def deD : PyData → Option PyData := some
def deAll {τ : Type} (g : PyData → Option τ) : List PyData → Option (List τ)
  | [] => some []
  | d :: ds => (g d).bind fun x => (deAll g ds).map fun xs => x :: xs
def deL {τ : Type} (g : PyData → Option τ) : PyData → Option (List τ) | .list ds => deAll g ds | _ => none
def deV {τ : Type} (g : PyData → Option τ) : PyData → Option (List τ) | .tuple ds => deAll g ds | _ => none
def deT2 {α β : Type} (a : PyData → Option α) (b : PyData → Option β) : PyData → Option (α × β)
  | .tuple [x, y] => (a x).bind fun u => (b y).map fun v => (u, v)
  | _ => none
def deT3 {α β γ : Type} (a : PyData → Option α) (b : PyData → Option β) (c : PyData → Option γ) : PyData → Option (α × β × γ)
  | .tuple [x, y, z] => (a x).bind fun u => (b y).bind fun v => (c z).map fun w => (u, v, w)
  | _ => none
def deT4 {α β γ δ : Type} (a : PyData → Option α) (b : PyData → Option β) (c : PyData → Option γ) (d : PyData → Option δ) : PyData → Option (α × β × γ × δ)
  | .tuple [x, y, z, t] => (a x).bind fun u => (b y).bind fun v => (c z).bind fun w => (d t).map fun s => (u, v, w, s)
  | _ => none
def deO {τ : Type} (g : PyData → Option τ) : PyData → Option (Option τ) | .none => some none | d => (g d).map some
section
variable {τ α β γ δ : Type} {E : Enc τ} {g : PyData → Option τ} {A : Enc α} {B : Enc β} {G : Enc γ} {D : Enc δ} {a : PyData → Option α} {b : PyData → Option β} {c : PyData → Option γ} {d : PyData → Option δ}
theorem dcI : Dec eI deI := ⟨fun d x h => by cases d <;> simp [deI] at h; subst h; rfl, fun _ => rfl⟩
theorem dcB : Dec eB deB := ⟨fun d x h => by cases d <;> simp [deB] at h; subst h; rfl, fun _ => rfl⟩
theorem dcS : Dec eS deS := ⟨fun d x h => by cases d <;> simp [deS] at h; subst h; rfl, fun _ => rfl⟩
theorem dcN : Dec eN deN := ⟨fun d x h => by cases d <;> simp [deN] at h; rfl, fun _ => rfl⟩
theorem dcD : Dec eD deD := ⟨fun d x h => by simp [deD] at h; subst h; rfl, fun _ => rfl⟩
theorem deAll_ok (h : Dec E g) : ∀ (ds : List PyData) (xs : List τ), deAll g ds = some xs → xs.map E.enc = ds
  | [], xs, e => by simp [deAll] at e; subst e; rfl
  | d :: ds, xs, e => by
    unfold deAll at e
    cases e1 : g d with
    | none => rw [e1] at e; cases e
    | some x =>
      rw [e1, Option.bind_some] at e
      cases e2 : deAll g ds with
      | none => rw [e2] at e; cases e
      | some ys =>
        rw [e2] at e
        cases e
        rw [List.map_cons, h.ok d x e1, deAll_ok h ds ys e2]
theorem deAll_rt (h : Dec E g) : ∀ xs : List τ, deAll g (xs.map E.enc) = some xs
  | [] => rfl
  | x :: xs => by rw [List.map_cons, deAll, h.rt, Option.bind_some, deAll_rt h xs]; rfl
theorem dcL (h : Dec E g) : Dec (eL E) (deL g) := ⟨fun d x e => by
  cases d <;> simp only [deL] at e <;> first | cases e | skip
  exact congrArg PyData.list (deAll_ok h _ _ e), fun x => deAll_rt h x⟩
theorem dcV (h : Dec E g) : Dec (eV E) (deV g) := ⟨fun d x e => by
  cases d <;> simp only [deV] at e <;> first | cases e | skip
  exact congrArg PyData.tuple (deAll_ok h _ _ e), fun x => deAll_rt h x⟩
theorem bind_eq' {α β : Type} {o : Option α} {f : α → Option β} {y : β} (h : o.bind f = some y) : ∃ x, o = some x ∧ f x = some y := bind_some h
theorem map_eq' {α β : Type} {o : Option α} {f : α → β} {y : β} (h : o.map f = some y) : ∃ x, o = some x ∧ f x = y := by
  cases o with
  | none => cases h
  | some x => exact ⟨x, rfl, Option.some.inj h⟩
theorem dcT2 (ha : Dec A a) (hb : Dec B b) : Dec (eT2 A B) (deT2 a b) := ⟨fun d x e => by
  unfold deT2 at e
  split at e
  · obtain ⟨u, e1, e⟩ := bind_some e
    obtain ⟨v, e2, e⟩ := map_eq' e
    subst e
    show PyData.tuple [A.enc u, B.enc v] = _
    rw [ha.ok _ _ e1, hb.ok _ _ e2]
  · exact absurd e (by simp), fun x => by
  show (a (A.enc x.1)).bind _ = _
  rw [ha.rt, Option.bind_some, hb.rt]; rfl⟩
theorem dcT3 (ha : Dec A a) (hb : Dec B b) (hc : Dec G c) : Dec (eT3 A B G) (deT3 a b c) := ⟨fun d x e => by
  unfold deT3 at e
  split at e
  · obtain ⟨u, e1, e⟩ := bind_some e
    obtain ⟨v, e2, e⟩ := bind_some e
    obtain ⟨w, e3, e⟩ := map_eq' e
    subst e
    show PyData.tuple [A.enc u, B.enc v, G.enc w] = _
    rw [ha.ok _ _ e1, hb.ok _ _ e2, hc.ok _ _ e3]
  · exact absurd e (by simp), fun x => by
  show (a (A.enc x.1)).bind _ = _
  rw [ha.rt, Option.bind_some, hb.rt, Option.bind_some, hc.rt]; rfl⟩
theorem dcT4 (ha : Dec A a) (hb : Dec B b) (hc : Dec G c) (hd : Dec D d) : Dec (eT4 A B G D) (deT4 a b c d) := ⟨fun d x e => by
  unfold deT4 at e
  split at e
  · obtain ⟨u, e1, e⟩ := bind_some e
    obtain ⟨v, e2, e⟩ := bind_some e
    obtain ⟨w, e3, e⟩ := bind_some e
    obtain ⟨z, e4, e⟩ := map_eq' e
    subst e
    show PyData.tuple [A.enc u, B.enc v, G.enc w, D.enc z] = _
    rw [ha.ok _ _ e1, hb.ok _ _ e2, hc.ok _ _ e3, hd.ok _ _ e4]
  · exact absurd e (by simp), fun x => by
  show (a (A.enc x.1)).bind _ = _
  rw [ha.rt, Option.bind_some, hb.rt, Option.bind_some, hc.rt, Option.bind_some, hd.rt]; rfl⟩
theorem dcO {hn : ∀ x, E.enc x ≠ .none} (h : Dec E g) : Dec (eO E hn) (deO g) := ⟨fun d x e => by
  unfold deO at e
  split at e
  · cases e; rfl
  · obtain ⟨y, e1, e⟩ := map_eq' e
    subst e
    exact h.ok _ _ e1, fun x => by
  cases x with
  | none => rfl
  | some x =>
    show deO g (E.enc x) = _
    unfold deO
    split
    · rename_i e; exact absurd e (hn x)
    · rw [h.rt]; rfl⟩
end
/-- a part of data -/
def partD (d : PyData) (n : Int) : Option PyData := match d with
  | .tuple ds => atI ds n
  | .list ds => atI ds n
  | _ => none

section
variable {X : Cx} {Ω : Type} {env : Env} {nm : Str} {pos np : Pos} {a b c e : Expr} {P P1 P2 P3 : Type} {τ τ1 τ2 α β : Type} {S : Stor τ} {S1 : Stor τ1} {S2 : Stor τ2} {E : Enc τ} {E1 : Enc τ1} {E2 : Enc τ2} {G : Env → Prop} {e' : P → Env} {e1 : P1 → Env} {e2 : P1 → P2 → Env} {e3 : P1 → P2 → P3 → Env} {f : (τ → P → Option Ω) → Option Ω}
theorem lx_dec {τ' : Type} {E' : Enc τ'} {g : PyData → Option τ'} (dc : Dec E' g) {f : (PyData → P → Option Ω) → Option Ω} (h : LX X env e (it eD) e' f) : LX X env e (it E') e' (fun (k : τ' → P → Option Ω) => f fun a p => (g a).bind fun b => k b p) :=
  lx_cast h g fun d b hb => dc.ok d b hb
/-- d[n] of data -/
theorem lx_ixD {fa : (PyData → P1 → Option Ω) → Option Ω} {fb : P1 → (Int → P2 → Option Ω) → Option Ω} (ha : LX X env a (it eD) e1 fa) (hb : ∀ p1, LX X (e1 p1) b (it eI) (e2 p1) (fb p1)) (hp : PlainIx b := by exact fun _ _ => rfl) :
    LX X env (.Subscript a b pos) (it eD) (fun p : P1 × P2 => e2 p.1 p.2) (fun k => fa fun x p1 => fb p1 fun i p2 => (partD x i).bind fun y => k y (p1, p2)) :=
  fun C F H σs es σ k ω Q hK hl h hk q => tE.of X (pe_ix ix_seq (peC X) (peC X) hp) (op2_run (lo_of ha) (fun p1 => lo_of (hb p1)) (fun _ _ => trivial) (fun _ _ => trivial) hK hl h hk
    fun x p1 i p2 v u F' H' fp fq hk' h' r1 r2 => by
      obtain ⟨y, hy, hk2⟩ := bind_some hk'
      clear hk'
      obtain ⟨_, r2⟩ := r2
      obtain ⟨_, r1⟩ := r1
      cases r2
      have r1' : Rep C.K F' v x := r1
      unfold partD at hy
      split at hy
      · obtain ⟨p, vs, rfl, h1, h2⟩ := r1'.tup_inv
        obtain ⟨w, hw, rw'⟩ := h2.atD hy
        exact .inr (.inl ⟨p, vs, i, w, rfl, rfl, by rw [← hK]; exact same_sqT h'.sF h1, hw, q y (p1, p2) w F' H' hk2 (h'.pushSh rw')⟩)
      · obtain ⟨p, vs, rfl, h1, h2⟩ := r1'.lst_inv
        obtain ⟨w, hw, rw'⟩ := h2.atD hy
        exact .inl ⟨p, vs, i, w, rfl, rfl, by rw [← hK]; exact SqL.of (h'.sF _ _ h1), hw, q y (p1, p2) w F' H' hk2 (h'.pushSh rw')⟩
      · cases hy)
/-- is a list not empty -/
theorem lt_tru {g : τ → List α} {Sa : Stor α} (hv : LVw S Sa g) (ha : LO X G env a S e' f) (hG : ∀ p, G (e' p)) (he : ∀ whole, isTrue a X.env whole = (do let v ← whole; standAt a.pos; holding [v] (truthy v)) := by intro _; rfl) :
    LT X env a e' (fun k => f fun x p => k (!(g x).isEmpty) p) :=
  fun C F H σs es σ k ω Q hK hl h hk q => tT.of X (pt_truth (peC X) he) (lo_run ha hG hK hl h hk fun x p v F' H' fp hk' h' rr => by
    obtain ⟨t, vs, fps, rfl, h1, h2⟩ := hv.view h'.sF rr
    refine ⟨!(g x).isEmpty, .inl ⟨vs, by rw [← hK]; exact h1, ?_⟩, q _ p F' H' hk' h'⟩
    have := h2.length
    cases vs <;> cases hgx : g x <;> rw [hgx] at this <;> simp_all)
/-- a tuple of a kind: never empty -/
theorem lt_truI {f : (Int → P → Option Ω) → Option Ω} (ha : LX X env a (it eI) e' f) (he : ∀ whole, isTrue a X.env whole = (do let v ← whole; standAt a.pos; holding [v] (truthy v)) := by intro _; rfl) :
    LT X env a e' (fun k => f fun x p => k (x != 0) p) :=
  fun C F H σs es σ k ω Q hK hl h hk q => tT.of X (pt_truth (peC X) he) (lo_run (lo_of ha) (fun _ => trivial) hK hl h hk fun x p v F' H' fp hk' h' rr => by
    obtain ⟨_, rr⟩ := rr
    cases rr
    exact ⟨x != 0, rfl, q _ p F' H' hk' h'⟩)
end
end Z

set_option Elab.async false
set_option linter.all false
set_option maxRecDepth 100000
namespace Z
open PySem PySem.Spec PyProof.Rows L2

/-! ### set(xs) of ints, sorted -/
section
variable {P : Program} {w : World} {A : Around} {E : Value → Shared → Prop} {s : Shared}
def inSet (val : Nat → Int) (i : Nat) (z : Int) : Bool := ((List.range i).map val).any fun y => y == z
theorem inSet_step (val : Nat → Int) (i : Nat) (z : Int) : inSet val (i + 1) z = (inSet val i z || decide (z = val i)) := by
  unfold inSet
  rw [List.range_succ, List.map_append, List.any_append]
  simp only [List.map_cons, List.map_nil, List.any_cons, List.any_nil, Bool.or_false]
  congr 1
  by_cases h : val i = z
  · rw [beq_iff_eq.2 h, decide_eq_true h.symm]
  · rw [beq_eq_false_iff_ne.2 h, decide_eq_false fun q => h q.symm]
theorem setR_loop {I : Addr} {fp wr : List Addr} {Γ : Array GenState → Array GenState → Prop} {n : Nat} {Pv : Nat → Value → Prop} {St : Nat → Shared → Prop} {R : Result → Shared → Prop} (W : WalksS P w A.in1 I fp wr Γ n Pv St) (d : Addr) (hd : d ∉ fp)
    (val : Nat → Int) (hval : ∀ i v, Pv i v → ∃ t, v = .int (val i) t) (hb : n + 1 < scanBound) : ∀ (k i : Nat) (s : Shared), n - i = k → i ≤ n → St i s → (∃ c, SetR w s.heap d (inSet val i) c ∧ c ≤ i) →
    (∀ s' c, Moved (d :: wr) Γ s s' → SetR w s'.heap d (inSet val n) c → c ≤ n → R (.ok (.ret .none)) s') → codeAny (model P w) A (.builtin "set.update.loop" ⟨[.ref d, .ref I], []⟩) R s := by
  have hdw : d ∉ wr := fun h => hd (W.sub _ h)
  have up : ∀ b ∈ wr, b ∈ d :: wr := fun b m => List.mem_cons_of_mem _ m
  intro k
  induction k with
  | zero =>
    rintro i s hk hi hst ⟨c, hc, hci⟩ hR
    obtain rfl : i = n := by omega
    refine codeAny_builtin PyProof.Rows.F.entry_set_update_loop ?_; rw [Around.under_plainId PyProof.Rows.F.plain_set_update_loop _]
    show wpAny _ A.in1 (pyNext (.ref I) >>= _) _ _ s; refine wpAny_bind (W.done s _ _ hst fun s' hm => ?_)
    show wpAny _ A.in1 (ret Value.none) _ _ s'; exact wpAny_pure (hR s' c (hm.mono up) (hc.at fun o e => hm.heap d o hdw e) hci)
  | succ k ih =>
    rintro i s hk hi hst ⟨c, hc, hci⟩ hR
    have hlt : i < n := by omega
    refine codeAny_builtin PyProof.Rows.F.entry_set_update_loop ?_; rw [Around.under_plainId PyProof.Rows.F.plain_set_update_loop _]
    show wpAny _ A.in1 (pyNext (.ref I) >>= _) _ _ s; refine wpAny_bind (W.item i s _ _ hlt hst fun v s' hP hst' hm => ?_)
    obtain ⟨t, rfl⟩ := hval i v hP
    have hc' : SetR w s'.heap d (inSet val i) c := hc.at fun o e => hm.heap d o hdw e
    show wpAny _ A.in1 (holding [Value.int (val i) t] (setAdd d (.int (val i) t)) >>= _) _ _ s'; refine wpAny_bind (wpAny_holding ?_)
    unfold setAdd; refine wpAny_holding (wpAny_bind ((intKind P w).pyHash (k := val i) (intKind_is P w _ _) ?_))
    refine setR_add_hashed (s := { s' with toks := s'.toks + 1 }) hc' (by omega) fun h' sb r => ?_
    have r' : SetR w h' d (inSet val (i + 1)) (if inSet val i (val i) = true then c else c + 1) := r.congr fun z => inSet_step val i z
    refine wpAny_pure ⟨plainId_quiet PyProof.Rows.F.plain_set_update_loop _, ih (i + 1) _ (by omega) hlt (W.frame _ s' _ _ hst' (Nat.le_succ _) fun b m o e => ?_) ⟨_, r', by split <;> omega⟩ fun s2 c2 hm2 h2 l2 => hR s2 c2 (Moved.trans W.gtrans ((hm.mono up).then_heap (Nat.le_succ _) fun b o m e => ?_) hm2) h2 l2⟩
    · rw [sb.2 b (fun q : b = d => hd (q ▸ m))]; exact e
    · rw [sb.2 b (fun q : b = d => m (q ▸ List.mem_cons_self))]; exact e
abbrev newSet (w : World) : Obj := { cls := .type "set", dict := none, data := .set #[] 0 (.fresh 0 0 (!w.params.followText "set-order")) }
set_option maxHeartbeats 3200000 in
theorem setR_list {l : Addr} {items : Array Value} {ns : List Int} {Q : Value → Shared → Prop} (hh : A.handled = none) (hl : s.heap.IsList l items) (hi : IntsAre items.toList ns) (hb : items.size + 1 < scanBound)
    (h : ∀ (h' : Heap) (tk c : Nat), SetR w h' s.heap.objs.size (inSet (fun i => ns.getD i 0) items.size) c → c ≤ items.size → (∀ b o, s.heap.get? b = some o → h'.get? b = some o) → Q (.ref s.heap.objs.size) { s with heap := h', toks := tk }) :
    wpAny (model P w) A (call (.type "set") [.ref l]) Q E s := by
  obtain ⟨c0, tl, hmro⟩ := PySem.F.called_set.mro
  have hmade := PySem.F.called_set.made; have hsub := PySem.F.called_set.sub
  refine wpAny_call (codeAny_of_tree ?_); show wpAny _ _ (callAny (.type "set") _) _ _ _
  refine wpAny_pure ⟨Code.quiet_builtin _ (by decide +kernel), codeAny_builtin PySem.F.entry_type_call ?_⟩; rw [Around.under_plain (weight_type_call_type "set" [.ref l] []) rfl]
  have h1 := PySem.F.called_set.notType; have h2 := PySem.F.called_set.canCreate; have hct := PySem.F.typeCall_set_1 (.ref l)
  repeat (any_goals (first | assumption | wp_step))
  refine codeAny_mono (code_set_led1 (.ref l) (E := E) (Q₁ := fun obj s₁ => obj = .ref s.heap.objs.size ∧ s₁ = { s with heap := s.heap.push (newSet w) }) ⟨rfl, rfl⟩) fun r s₁ hr => ?_
  cases r with
  | error e => exact hr
  | ok fl =>
    cases fl with
    | ret obj =>
      obtain ⟨rfl, rfl⟩ := hr
      have hS : (s.heap.push (newSet w)).get? s.heap.objs.size = some (newSet w) := Heap.get?_push_size _ rfl
      have hT : Shared.TypeIs { s with heap := s.heap.push (newSet w) } (.ref s.heap.objs.size) "set" := ⟨_, hS, rfl⟩
      have hli := PySem.F.called_set.init.lookup; have hbi := PySem.F.called_set.init.bind (.ref s.heap.objs.size)
      repeat (any_goals (first | assumption | wp_step))
      refine codeAny_mono (codeAny_call_builtin (R := wants (fun r s₂ => r = .none ∧ ∃ h' tk c, s₂ = { s with heap := h', toks := tk } ∧ SetR w h' s.heap.objs.size (inSet (fun i => ns.getD i 0) items.size) c ∧ c ≤ items.size ∧ (∀ b o, s.heap.get? b = some o → h'.get? b = some o)) E) PySem.F.called_set.init.plain PySem.F.entry_set_init (check_set_init_1 hT ?_)) fun r₂ s₂ hr₂ => ?_
      · obtain ⟨ol, hol, hcl, nl, hdl⟩ := hl
        obtain ⟨ocls, odict, odata, oslots⟩ := ol
        simp only at hcl hdl; subst hcl; subst hdl
        have hol' : (s.heap.push (newSet w)).get? l = some { cls := .type "list", dict := odict, data := .seq items nl, slots := oslots } := Heap.get?_push_of_some _ hol
        have hsls := PySem.F.sub_list_set; have hslf := PySem.F.sub_list_frozenset
        have hne : (Value.type "list" == Value.type "dict") = false := by decide
        have hl1 : (s.heap.push (newSet w)).IsList l items := ⟨_, hol', rfl, nl, rfl⟩
        unfold Builtin.«set.__init__» noKeywords Builtin.Frozenset.updateFrom; generalize hPI : pyIter = PI
        wp_walk; subst hPI
        refine wpAny_pyIter_list hl1 (wpAny_bind (wpAny_runValue ?_))
        have hlS : l < s.heap.objs.size := Heap.lt_size hol
        have hz1 : (s.heap.push (newSet w)).objs.size = s.heap.objs.size + 1 := Heap.size_push ..
        have hneI : l ≠ (s.heap.push (newSet w)).objs.size := by rw [hz1]; exact Nat.ne_of_lt (Nat.lt_succ_of_lt hlS)
        have hSf : s.heap.objs.size ∉ [(s.heap.push (newSet w)).objs.size, l] := by
          rw [hz1]; intro m; rcases List.mem_cons.1 m with q | m; exact absurd q (Nat.ne_of_lt (Nat.lt_succ_self _)); exact absurd (List.mem_singleton.1 m) (Nat.ne_of_gt hlS)
        have hval : ∀ (i : Nat) (v : Value), items[i]? = some v → ∃ t, v = .int ((fun i => ns.getD i 0) i) t := fun i v hv => PyProof.Rows.IntsAre.int_at hi i v (by rw [Array.getElem?_toList]; exact hv)
        refine setR_loop ((Walks.list (show A.in1.in1.in1.handled = none by simp [hh]) _ l hneI items).toS) s.heap.objs.size hSf (fun i => ns.getD i 0) hval hb (items.size - 0) 0 _ (by omega) (Nat.zero_le _) ⟨⟨_, Heap.get?_push_size _ rfl, rfl, rfl⟩, (hl1.push _)⟩ ⟨0, ?hS0, Nat.le_refl _⟩ ?hR
        case hS0 =>
          exact ((setR_fresh (h := s.heap) w).at fun o e => Heap.get?_push_of_some _ e).congr fun _ => rfl
        case hR =>
          rintro ⟨h', g2, d', tk', os'⟩ c hm hS' hc
          obtain rfl : g2 = s.gens := hm.gens
          obtain rfl : d' = s.drawn := hm.drawn
          obtain rfl : os' = s.os := hm.os
          show wpAny _ _ _ _ _ _; refine wpAny_pure ?_; show wpAny _ _ (ret Value.none) _ _ _
          refine wpAny_pure ⟨rfl, h', tk', c, rfl, hS', hc, fun b o e => ?_⟩
          have hb0 := Heap.lt_size e
          exact hm.heap b o (by rw [hz1]; intro m; rcases List.mem_cons.1 m with q | m; exact absurd q (Nat.ne_of_lt hb0); exact absurd (List.mem_singleton.1 m) (Nat.ne_of_lt (Nat.lt_succ_of_lt hb0))) (Heap.get?_push_of_some _ (Heap.get?_push_of_some _ e))
      · cases r₂ with
        | error e => exact hr₂
        | ok fl₂ =>
          cases fl₂ with
          | ret r =>
            obtain ⟨rfl, h', tk, c, rfl, hS', hc, hk'⟩ := hr₂
            repeat (any_goals (first | assumption | wp_step))
            exact h _ _ _ hS' hc hk'
          | _ => exact hr₂.elim
    | _ => exact hr.elim
end
section
variable {X : Cx}
def rSetI (K : Fg) (w : World) : List V → Hp → VK → Prop := fun vs H Q => ∃ (l : Addr) (ns : List Int), vs = [V.ref l] ∧ SqL K H l (ns.map V.int) ∧ ns.length < 64 ∧
  ∀ p S c, H p = none → (∀ z : Int, S z = true ↔ z ∈ ns) → c < 64 → Q (.ref p) (upd H p (SetO w p S c))
theorem cr_setI (hc : X.calm = true) : CallR X (.type "set") (rSetI X.K X.w) := by
  intro pins s σ H vs us Q I r h
  obtain ⟨l, ns, rfl, hs, h64, q⟩ := h
  rw [Vals.ref1 r]
  obtain ⟨uts, rv, pl, hz⟩ := I.list hs
  have hi := intsAre_of rv
  have hlen : uts.length = ns.length := by have := rv.length; simpa using this.symm
  refine setR_list (items := uts.toArray) (ns := ns) (I.ok.hd hc) pl.isList (by simpa using hi) (by simp [hlen]; unfold scanBound; omega) fun h' tk c R hc hk => ?_
  have hn : H s.heap.objs.size = none := I.hok.fresh (Nat.le_refl _)
  refine ⟨.ref _, upd H s.heap.objs.size (SetO X.w s.heap.objs.size (inSet (fun i => ns.getD i 0) uts.toArray.size) c), I.laid (t' := tk) hk (Nat.le_refl _) (setO_new R), rfl, q _ _ c hn (fun z => ?_) (by simp [hlen] at hc; omega)⟩
  unfold inSet
  rw [List.any_eq_true]
  simp only [List.mem_map, List.mem_range, beq_iff_eq, List.size_toArray, hlen]
  constructor
  · rintro ⟨y, ⟨i, hi, rfl⟩, rfl⟩
    rw [List.getD_eq_getElem?_getD, List.getElem?_eq_getElem hi]
    exact List.getElem_mem hi
  · intro m
    obtain ⟨i, hi, e⟩ := List.mem_iff_getElem.1 m
    exact ⟨z, ⟨i, hi, by rw [List.getD_eq_getElem?_getD, List.getElem?_eq_getElem hi, e]; rfl⟩, rfl⟩
/-- the members, ascending, each once -/
def usort : List Int → List Int
  | [] => []
  | x :: xs => let r := usort xs; if x ∈ r then r else r.filter (· < x) ++ x :: r.filter (x < ·)
theorem usort_mem {xs : List Int} {z : Int} : z ∈ usort xs ↔ z ∈ xs := by
  induction xs generalizing z with
  | nil => simp [usort]
  | cons x xs ih =>
    simp only [usort]
    split
    · rename_i h
      rw [ih] at h
      rw [ih, List.mem_cons]
      exact ⟨.inr, fun q => q.elim (fun e => e ▸ h) id⟩
    · rename_i h
      simp only [List.mem_append, List.mem_filter, List.mem_cons, decide_eq_true_eq, ih] at h ⊢
      constructor
      · rintro (q | q | q)
        · exact .inr q.1
        · exact .inl q
        · exact .inr q.1
      · rintro (q | q)
        · exact .inr (.inl q)
        · by_cases c : z < x
          · exact .inl ⟨q, c⟩
          · by_cases d : z = x
            · exact .inr (.inl d)
            · exact .inr (.inr ⟨q, by omega⟩)
theorem usort_pw : ∀ (xs : List Int), (usort xs).Pairwise (· < ·)
  | [] => List.Pairwise.nil
  | x :: xs => by
    have ih := usort_pw xs
    simp only [usort]
    split
    · exact ih
    · refine List.pairwise_append.2 ⟨ih.filter _, List.pairwise_cons.2 ⟨fun y m => by simpa using (List.mem_filter.1 m).2, ih.filter _⟩, fun y m z n => ?_⟩
      have hy : y < x := by simpa using (List.mem_filter.1 m).2
      rcases List.mem_cons.1 n with rfl | n
      · exact hy
      · have : x < z := by simpa using (List.mem_filter.1 n).2
        omega
theorem asc_uniq : ∀ {xs ys : List Int}, xs.Pairwise (· < ·) → ys.Pairwise (· < ·) → (∀ z, z ∈ xs ↔ z ∈ ys) → xs = ys
  | [], [], _, _, _ => rfl
  | [], y :: ys, _, _, h => by have := (h y).2 (List.mem_cons_self ..); cases this
  | x :: xs, [], _, _, h => by have := (h x).1 (List.mem_cons_self ..); cases this
  | x :: xs, y :: ys, p, q, h => by
    obtain ⟨p1, p2⟩ := List.pairwise_cons.1 p
    obtain ⟨q1, q2⟩ := List.pairwise_cons.1 q
    have e : x = y := by
      rcases List.mem_cons.1 ((h x).1 (List.mem_cons_self ..)) with e | m
      · exact e
      · rcases List.mem_cons.1 ((h y).2 (List.mem_cons_self ..)) with e | n
        · exact e.symm
        · have := p1 y n; have := q1 x m; omega
    subst e
    rw [asc_uniq p2 q2 fun z => ?_]
    constructor
    · intro m
      rcases List.mem_cons.1 ((h z).1 (List.mem_cons_of_mem _ m)) with e | n
      · have := p1 z m; omega
      · exact n
    · intro m
      rcases List.mem_cons.1 ((h z).2 (List.mem_cons_of_mem _ m)) with e | n
      · have := q1 z m; omega
      · exact n
theorem usort_is {xs ys : List Int} (p : ys.Pairwise (· < ·)) (h : ∀ z, z ∈ ys ↔ z ∈ xs) : ys = usort xs := asc_uniq p (usort_pw xs) fun z => by rw [usort_mem, h]
end
section
variable {X : Cx} {Ω : Type} {env : Env} {pos pos2 np np2 : Pos} {a : Expr} {P : Type} {τ : Type} {S : Stor τ} {G : Env → Prop} {e' : P → Env} {f : (τ → P → Option Ω) → Option Ω} {g : τ → List Int}
/-- sorted(set(xs)) of ints, fewer than 64 -/
theorem lx_usort (hc : X.calm = true) (hv : LVw S (it eI) g) (hm : X.mg "sorted" = none) (hm2 : X.mg "set" = none) (ha : LO X G env a S e' f) (hG : ∀ p, G (e' p)) (hg : Gl X "sorted" := by rfl) (hg2 : Gl X "set" := by rfl)
    (he : starEach (a :: []) X.env = (false, eval a X.env) :: starEach [] X.env := by rfl) (he2 : starEach (Expr.Call (.Name "set" np2) [a] [] pos2 :: []) X.env = (false, eval (Expr.Call (.Name "set" np2) [a] [] pos2) X.env) :: starEach [] X.env := by rfl)
    (hpl : (backTo pos (starEach [] X.env)).any (·.1) = false := by rfl) (hpl2 : (backTo pos2 (starEach [] X.env)).any (·.1) = false := by rfl) :
    LX X env (.Call (.Name "sorted" np) [.Call (.Name "set" np2) [a] [] pos2] [] pos) (ls (it eI)) e' (fun k => f fun x p => ck (decide ((g x).length < 64)) (k (usort (g x)) p)) :=
  fun C F H σs es σ k ω Q hK hl h hk q => tE.of X (pe_callB (cr_sortedSet hc) hg hm boot_sorted (pa_cons (pe_callTy (cr_setI hc) hg2 hm2 PyProof.Rows.boot_set (pa_cons (peC X) pa_nil he) (by decide) (by decide) he hpl2) pa_nil he2) (by decide) (by decide) he2 hpl)
    (lo_run ha hG hK hl h hk fun x p v F' H' fp hk' h' rr => by
      obtain ⟨hc, hk2⟩ := ck_some hk'
      clear hk'
      obtain ⟨t, vs, fps, rfl, h1, h2⟩ := hv.view h'.sF rr
      have := h2.zero.2.ints
      subst this
      refine ⟨t, g x, rfl, by rw [← hK]; exact h1, of_decide_eq_true hc, fun d S c nd hS hc => ?_⟩
      refine ⟨d, S, c, rfl, upd_same, hc, fun ns b pw hm hl nb => ?_⟩
      have e := usort_is (xs := g x) pw fun z => by rw [hm, hS]
      subst e
      have h3 := h'.newH (u := SetO X.w d S c) nd
      exact q _ p _ F' _ hk2 (h3.newOw nb ⟨b, _, [], rfl, upd_same, (RepAll.ofInts (usort (g x))).zero, rfl⟩))
end
end Z

set_option Elab.async false
set_option linter.all false
set_option maxRecDepth 100000
namespace Z
open PySem PySem.Spec PyProof.Rows L2

section
variable {X : Cx} {Ω : Type} {env : Env} {nm nm2 nm3 : Str} {pos np tp : Pos} {a b c e : Expr} {P P1 P2 P3 : Type} {τ τ1 τ2 τ3 α β : Type} {S : Stor τ} {S1 : Stor τ1} {S2 : Stor τ2} {S3 : Stor τ3} {E : Enc τ} {E1 : Enc τ1} {E2 : Enc τ2} {E3 : Enc τ3} {G : Env → Prop} {e' : P → Env} {e1 : P1 → Env} {e2 : P1 → P2 → Env} {e3 : P1 → P2 → P3 → Env} {f : (τ → P → Option Ω) → Option Ω}
/-! ### a < b < c of ints -/
section
variable {op op' : CmpOp} {r r' : R2} {g g' : Int → Int → Bool} {fa : (Int → P1 → Option Ω) → Option Ω} {fb : P1 → (Int → P2 → Option Ω) → Option Ω} {fc : P1 → P2 → (Int → P3 → Option Ω) → Option Ω}
structure CoI (X : Cx) (op : CmpOp) (g : Int → Int → Bool) : Prop where
  ex : ∃ r, OpR X (compareOp op) r ∧ ∀ i j H (Q : VK), Q (.bl (g i j)) H → r (.int i) (.int j) H Q
theorem coLt : CoI X .Lt fun x y => decide (x < y) := ⟨_, op_lt, fun i j _ _ q => ⟨i, j, rfl, rfl, q⟩⟩
theorem coLe : CoI X .LtE fun x y => decide (x ≤ y) := ⟨_, op_le, fun i j _ _ q => ⟨i, j, rfl, rfl, q⟩⟩
theorem chain_run (ha : LX X env a (it eI) e1 fa) (hb : ∀ p1, LX X (e1 p1) b (it eI) (e2 p1) (fb p1)) (hc : ∀ p1 p2, LX X (e2 p1 p2) c (it eI) (e3 p1 p2) (fc p1 p2)) (hs : ∀ p1 p2 p3, Sub (e3 p1 p2 p3) (e2 p1 p2))
    (hr : ∀ i j H (Q : VK), Q (.bl (g i j)) H → r (.int i) (.int j) H Q) (hr' : ∀ i j H (Q : VK), Q (.bl (g' i j)) H → r' (.int i) (.int j) H Q)
    {C : Ck} {F H : Hp} {σs : List (Option V)} {es : Env} {σ : List (Option V)} {k : Bool → P1 × P2 → Option Ω} {ω : Ω} {R : VK} (hK : C.K = X.K) (hl : σs.length = es.length) (h : ER C F H (σs ++ σ) (es ++ env))
    (hk : (fa fun x p1 => fb p1 fun y p2 => if g x y = true then fc p1 p2 fun z _ => k (g' y z) (p1, p2) else k false (p1, p2)) = some ω)
    (q : ∀ b p1 p2 F' H', k b (p1, p2) = some ω → ER C F' H' (σs ++ σ) (es ++ e2 p1 p2) → R (.bl b) H') : tChain r r' (tE X a) (tE X b) (tE X c) σ H R :=
  op2_run (lo_of ha) (fun p1 => lo_of (hb p1)) (fun _ _ => trivial) (fun _ _ => trivial) hK hl h hk fun x p1 y p2 v u F' H' fp fq hk' h' r1 r2 => by
    obtain ⟨_, r1⟩ := r1
    obtain ⟨_, r2⟩ := r2
    cases r1; cases r2
    refine hr x y H' _ ⟨g x y, rfl, ?_⟩
    cases gx : g x y with
    | false =>
      rw [gx, if_neg Bool.false_ne_true] at hk'
      rw [if_neg Bool.false_ne_true]
      exact q false p1 p2 F' H' hk' h'
    | true =>
      rw [gx, if_pos rfl] at hk'
      rw [if_pos rfl]
      refine hc p1 p2 C F' H' σs es σ _ ω _ hK hl h' hk' fun z p3 w F2 H2 hk2 h2 => ?_
      obtain ⟨w', fp, e1, _, r3⟩ := h2.look (i := 0) rfl
      simp at e1; subst e1
      cases r3
      exact hr' y z H2 R (q _ p1 p2 F2 H2 hk2 ((h2.pop).sub ((hs p1 p2 p3).pre es)))
theorem lx_chain (co : CoI X op g) (co' : CoI X op' g') (ha : LX X env a (it eI) e1 fa) (hb : ∀ p1, LX X (e1 p1) b (it eI) (e2 p1) (fb p1)) (hc : ∀ p1 p2, LX X (e2 p1 p2) c (it eI) (e3 p1 p2) (fc p1 p2)) (hs : ∀ p1 p2 p3, Sub (e3 p1 p2 p3) (e2 p1 p2))
    (hm : lastMarks [op, op'] [b, c] = false := by with_unfolding_all rfl) : LX X env (.Compare a [op, op'] [b, c] pos) (it eB) (fun p : P1 × P2 => e2 p.1 p.2) (fun k => fa fun x p1 => fb p1 fun y p2 => if g x y = true then fc p1 p2 fun z _ => k (g' y z) (p1, p2) else k false (p1, p2)) := by
  obtain ⟨r, ho, hr⟩ := co.ex
  obtain ⟨r', ho', hr'⟩ := co'.ex
  exact fun C F H σs es σ k ω Q hK hl h hk q => tE.of X (pe_chain ho ho' (peC X) (peC X) (peC X) hm) (chain_run ha hb hc hs hr hr' hK hl h hk fun b p1 p2 F' H' hk' h' => q b (p1, p2) _ F' H' hk' (h'.pushSh (.bl b)))
theorem lt_chain (co : CoI X op g) (co' : CoI X op' g') (ha : LX X env a (it eI) e1 fa) (hb : ∀ p1, LX X (e1 p1) b (it eI) (e2 p1) (fb p1)) (hc : ∀ p1 p2, LX X (e2 p1 p2) c (it eI) (e3 p1 p2) (fc p1 p2)) (hs : ∀ p1 p2 p3, Sub (e3 p1 p2 p3) (e2 p1 p2))
    (hm : lastMarks [op, op'] [b, c] = false := by with_unfolding_all rfl) : LT X env (.Compare a [op, op'] [b, c] pos) (fun p : P1 × P2 => e2 p.1 p.2) (fun k => fa fun x p1 => fb p1 fun y p2 => if g x y = true then fc p1 p2 fun z _ => k (g' y z) (p1, p2) else k false (p1, p2)) := by
  obtain ⟨r, ho, hr⟩ := co.ex
  obtain ⟨r', ho', hr'⟩ := co'.ex
  exact fun C F H σs es σ k ω Q hK hl h hk q => tT.of X (pt_chain ho ho' (peC X) (peC X) (peC X) hm) (chain_run ha hb hc hs hr hr' hK hl h hk fun b p1 p2 F' H' hk' h' => ⟨b, rfl, q b (p1, p2) F' H' hk' h'⟩)
end
/-! ### all, any of a list of bools -/
theorem RepAll.bools {K : Fg} {F : Hp} : ∀ {vs : List V} {ns : List Bool}, RepAll K F vs (ns.map eB.enc) → vs = ns.map V.bl
  | [], [], _ => rfl
  | [], _ :: _, h => by cases h
  | _ :: _, [], h => by cases h
  | v :: vs, n :: ns, h => by
    cases h with
    | cons h1 h2 =>
      have h1' : Rep K F v (.bool n) := h1
      cases h1'
      rw [RepAll.bools h2]; rfl
section
variable {g : τ → List Bool}
theorem lx_all (hc : X.calm = true) (hv : LVw S (it eB) g) (hm : X.mg "all" = none) (ha : LO X G env a S e' f) (hG : ∀ p, G (e' p)) (hg : Gl X "all" := by rfl) (he : starEach (a :: []) X.env = (false, eval a X.env) :: starEach [] X.env := by rfl) (hpl : (backTo pos (starEach [] X.env)).any (·.1) = false := by rfl) :
    LX X env (.Call (.Name "all" np) [a] [] pos) (it eB) e' (fun k => f fun x p => k ((g x).all id) p) :=
  lx_b1t (E := eB) (g := fun x : τ => (g x).all id) (cr_all hc) hm (by decide +kernel) ha hG (fun K F H fp v x Q hK s r q => by
    obtain ⟨p, vs, fps, rfl, h1, h2⟩ := hv.view s r
    have := h2.zero.2.bools
    subst this
    exact ⟨p, g x, rfl, by rw [← hK]; exact h1, q _ (.bl _)⟩) hg (by decide) (by decide) he hpl
theorem lx_any (hc : X.calm = true) (hv : LVw S (it eB) g) (hm : X.mg "any" = none) (ha : LO X G env a S e' f) (hG : ∀ p, G (e' p)) (hg : Gl X "any" := by rfl) (he : starEach (a :: []) X.env = (false, eval a X.env) :: starEach [] X.env := by rfl) (hpl : (backTo pos (starEach [] X.env)).any (·.1) = false := by rfl) :
    LX X env (.Call (.Name "any" np) [a] [] pos) (it eB) e' (fun k => f fun x p => k ((g x).any id) p) :=
  lx_b1t (E := eB) (g := fun x : τ => (g x).any id) (cr_any hc) hm (by decide +kernel) ha hG (fun K F H fp v x Q hK s r q => by
    obtain ⟨p, vs, fps, rfl, h1, h2⟩ := hv.view s r
    have := h2.zero.2.bools
    subst this
    exact ⟨p, g x, rfl, by rw [← hK]; exact h1, q _ (.bl _)⟩) hg (by decide) (by decide) he hpl
end
/-- isinstance(a, tuple) of data: a tuple is wanted -/
def isTupD : PyData → Bool
  | .tuple _ => true
  | _ => false
theorem lx_isD {f : (PyData → P → Option Ω) → Option Ω} (hm1 : X.mg "isinstance" = none) (hm2 : X.mg "tuple" = none) (ha : LX X env a (it eD) e' f) (hg1 : Gl X "isinstance" := by rfl) (hg2 : Gl X "tuple" := by rfl)
    (hs : starEach [a, .Name "tuple" tp] X.env = (false, eval a X.env) :: starEach [.Name "tuple" tp] X.env := by rfl) (hs2 : starEach [.Name "tuple" tp] X.env = (false, eval (.Name "tuple" tp) X.env) :: starEach [] X.env := by rfl) (hpl : (backTo pos (starEach [.Name "tuple" tp] X.env)).any (·.1) = false := by rfl) :
    LX X env (.Call (.Name "isinstance" np) [a, .Name "tuple" tp] [] pos) (it eB) e' (fun k => f fun x p => ck (isTupD x) (k true p)) :=
  fun C F H σs es σ k ω Q hK hl h hk q => tE.of X (pe_callB call_isi hg1 hm1 (by rfl) (pa_cons (peC X) (pa_cons (pe_bltn (v := .ty "tuple") (u := .type "tuple") hg2 hm2 (by rfl) rfl) pa_nil hs2) hs) (by decide) (by decide) hs hpl) (ha C F H σs es σ _ ω _ hK hl h hk fun x p v F' H' hk' h' => by
    obtain ⟨ht, hk2⟩ := ck_some hk'
    obtain ⟨v', fp, e1, _, r⟩ := h'.look (i := 0) rfl
    simp at e1; subst e1
    have r' : Rep C.K F' v x := r
    cases r' with
    | tup h1 h2 => exact ⟨_, _, _, _, true, rfl, .ty "tuple", sqT_ty (by rw [← hK]; exact same_sqT h'.sF h1), by unfold PySem.W.kitOne; rw [if_pos (by decide)], q true p (.bl true) F' H' hk2 (h'.pop.pushSh (.bl true))⟩
    | _ => cases ht)
/-! ### parts of tuples -/
structure CutP (E : Enc τ) (lo hi : Option Int) (E' : Enc α) (g : τ → α) : Prop where
  is : ∀ x, ∃ ds, E.enc x = .tuple ds ∧ E'.enc (g x) = .tuple (cutL ds lo hi)
theorem RepAll.cutD {K : Fg} {F : Hp} {vs : List V} {ds : List PyData} (lo hi : Option Int) (h : RepAll K F vs ds) : RepAll K F (cutV vs lo hi) (cutL ds lo hi) := by
  have hl := h.length
  unfold cutV cutL
  rw [hl]
  exact (h.drop _).take _
theorem cut_run {lo hi : Option Int} {E' : Enc α} {g : τ → α} (hp : CutP E lo hi E' g) {C : Ck} {F H : Hp} {σ : List (Option V)} {en : Env} {x : τ} {v : V} {Q : VK} (h : ER C F H σ en) (r : Rep C.K F v (E.enc x)) (q : ∀ u F' H', ER C F' H' (some u :: σ) (.st none α (it E') (g x) :: en) → Q u H') : rSlA C.K v lo hi H Q := by
  obtain ⟨ds, e1, e2⟩ := hp.is x
  rw [e1] at r
  obtain ⟨p, vs, rfl, h1, h2⟩ := r.tup_inv
  have hl := h2.length
  refine ⟨p, vs, rfl, same_sqT h.sF h1, fun hw => ?_, fun hw t nt => ?_⟩
  · refine q _ F H (h.pushSh ?_)
    have : cutL ds lo hi = ds := by
      unfold cutL
      rw [← hl, hw.1, hw.2, hl]; simp
    rw [e2, this]
    exact .tup h1 h2
  · refine q (.ref t) (upd F t (.tup (cutV vs lo hi))) _ ((h.newF nt).pushSh ?_)
    rw [e2]
    exact .tup (SqT.of upd_same) ((h2.cutD lo hi).mono (same_new (h.fnone nt)))
theorem lx_cutL {n : Int} {E' : Enc α} {g : τ → α} {f : (τ → P → Option Ω) → Option Ω} {j : Nat} {cp p2 : Pos} (hp : CutP E (some n) none E' g) (ha : LX X env a (it E) e' f) :
    LX X env (.Subscript a (.Slice (some (.Constant (.int n) j cp)) none none p2) pos) (it E') e' (fun k => f fun x p => k (g x) p) :=
  fun C F H σs es σ k ω Q hK hl h hk q => tE.of X (pe_slice sl_tupA (peC X) (po_some pe_int) po_none) (ha C F H σs es σ _ ω _ hK hl h hk fun x p v F' H' hk' h' => by
    obtain ⟨v', fp, e1, _, r⟩ := h'.look (i := 0) rfl
    simp at e1; subst e1
    exact ⟨n, rfl, by rw [← hK]; exact cut_run hp h'.pop r fun u F2 H2 h2 => q _ p u F2 H2 hk' h2⟩)
theorem lx_cutR {n : Int} {E' : Enc α} {g : τ → α} {f : (τ → P → Option Ω) → Option Ω} {j : Nat} {cp p2 : Pos} (hp : CutP E none (some n) E' g) (ha : LX X env a (it E) e' f) :
    LX X env (.Subscript a (.Slice none (some (.Constant (.int n) j cp)) none p2) pos) (it E') e' (fun k => f fun x p => k (g x) p) :=
  fun C F H σs es σ k ω Q hK hl h hk q => tE.of X (pe_slice sl_tupA (peC X) po_none (po_some pe_int)) (ha C F H σs es σ _ ω _ hK hl h hk fun x p v F' H' hk' h' => by
    obtain ⟨v', fp, e1, _, r⟩ := h'.look (i := 0) rfl
    simp at e1; subst e1
    exact ⟨n, rfl, by rw [← hK]; exact cut_run hp h'.pop r fun u F2 H2 h2 => q _ p u F2 H2 hk' h2⟩)
/-- tuples one behind the other -/
structure CatP (E1 : Enc τ1) (E2 : Enc τ2) (E3 : Enc τ3) (g : τ1 → τ2 → τ3) : Prop where
  is : ∀ x y, ∃ ds es, E1.enc x = .tuple ds ∧ E2.enc y = .tuple es ∧ E3.enc (g x y) = .tuple (ds ++ es) ∧ ds.length + es.length ≤ 1000
theorem lx_catT {fa : (τ1 → P1 → Option Ω) → Option Ω} {fb : P1 → (τ2 → P2 → Option Ω) → Option Ω} {g : τ1 → τ2 → τ3} (hp : CatP E1 E2 E3 g) (ha : LX X env a (it E1) e1 fa) (hb : ∀ p1, LX X (e1 p1) b (it E2) (e2 p1) (fb p1)) :
    LX X env (.BinOp a .Add b pos) (it E3) (fun p : P1 × P2 => e2 p.1 p.2) (fun k => fa fun x p1 => fb p1 fun y p2 => k (g x y) (p1, p2)) :=
  fun C F H σs es σ k ω Q hK hl h hk q => tE.of X (pe_op op_catA (peC X) (peC X)) (op2_run (lo_of ha) (fun p1 => lo_of (hb p1)) (fun _ _ => trivial) (fun _ _ => trivial) hK hl h hk
    fun x p1 y p2 v u F' H' fp fq hk' h' r1 r2 => by
      obtain ⟨_, r1⟩ := r1
      obtain ⟨_, r2⟩ := r2
      obtain ⟨ds, ts, e1, e2, e3, hz⟩ := hp.is x y
      rw [e1] at r1
      rw [e2] at r2
      obtain ⟨p, vs, rfl, h1, h2⟩ := r1.tup_inv
      obtain ⟨p', us, rfl, h3, h4⟩ := r2.tup_inv
      have l1 := h2.length
      have l2 := h4.length
      refine ⟨p, p', vs, us, rfl, rfl, by rw [← hK]; exact same_sqT h'.sF h1, by rw [← hK]; exact same_sqT h'.sF h3, Nat.le_of_lt (small1000 (by omega)), fun z => ?_, fun z y0 => ?_, fun z y0 t nt => ?_⟩
      · subst z
        have : ds = [] := List.eq_nil_of_length_eq_zero (by simpa using l1.symm)
        subst this
        refine q (g x y) (p1, p2) _ F' H' hk' (h'.pushSh ?_)
        rw [e3]; exact .tup h3 h4
      · subst y0
        have : ts = [] := List.eq_nil_of_length_eq_zero (by simpa using l2.symm)
        subst this
        refine q (g x y) (p1, p2) _ F' H' hk' (h'.pushSh ?_)
        rw [e3, List.append_nil]; exact .tup h1 h2
      · refine q (g x y) (p1, p2) (.ref t) (upd F' t (.tup (vs ++ us))) _ hk' ((h'.newF nt).pushSh ?_)
        rw [e3]
        exact .tup (SqT.of upd_same) ((h2.app h4).mono (same_new (h'.fnone nt))))
end
/-! ### a if c else b as a test -/
theorem pt_ifT {X : Cx} {c a b : Expr} {pos : Pos} {tc ta tb : TT} (hc : PT X c tc) (ha : PT X a ta) (hb : PT X b tb) : PT X (.IfExp c a b pos) (fun σ H Q => tc σ H fun k H1 => if k = true then ta σ H1 Q else tb σ H1 Q) := by
  refine ⟨fun pins s σ H Q I h => ?_⟩
  rw [PySem.arm_isTrue_IfExp]
  refine wpAny_bind (thn (hc.run pins s σ H _ I h) fun k s1 ⟨H1, I1, q1⟩ => ?_)
  cases k with
  | true => rw [if_pos rfl] at q1 ⊢; exact ha.run pins s1 σ H1 Q I1 q1
  | false => rw [if_neg Bool.false_ne_true] at q1 ⊢; exact hb.run pins s1 σ H1 Q I1 q1
theorem lt_if {X : Cx} {Ω : Type} {env : Env} {c a b : Expr} {pos : Pos} {P1 P2 P3 : Type} {e1 : P1 → Env} {e2 : P1 → P2 → Env} {e3 : P1 → P3 → Env} {fc : (Bool → P1 → Option Ω) → Option Ω} {fa : P1 → (Bool → P2 → Option Ω) → Option Ω} {fb : P1 → (Bool → P3 → Option Ω) → Option Ω} (hc : LT X env c e1 fc) (ha : ∀ p1, LT X (e1 p1) a (e2 p1) (fa p1)) (hb : ∀ p1, LT X (e1 p1) b (e3 p1) (fb p1))
    (hs : ∀ p1 p2, Sub (e2 p1 p2) (e1 p1)) (hs3 : ∀ p1 p3, Sub (e3 p1 p3) (e1 p1)) :
    LT X env (.IfExp c a b pos) e1 (fun k => fc fun x p1 => if x = true then fa p1 fun y _ => k y p1 else fb p1 fun y _ => k y p1) :=
  fun C F H σs es σ k ω Q hK hl hr hk q => tT.of X (pt_ifT (ptC X) (ptC X) (ptC X)) (hc C F H σs es σ _ ω _ hK hl hr hk fun x p1 F' H' hk' h' => by
    cases x with
    | true => rw [if_pos rfl] at hk' ⊢; exact ha p1 C F' H' σs es σ _ ω Q hK hl h' hk' fun y p2 F2 H2 hk2 h2 => q y p1 F2 H2 hk2 (h2.sub ((hs p1 p2).pre es))
    | false => rw [if_neg Bool.false_ne_true] at hk' ⊢; exact hb p1 C F' H' σs es σ _ ω Q hK hl h' hk' fun y p2 F2 H2 hk2 h2 => q y p1 F2 H2 hk2 (h2.sub ((hs3 p1 p2).pre es)))
/-! ### x, y, z = a, b, c -/
section
variable {X : Cx} {R I Ω J : Type} {SR : Stor R} {envR : I → Env} {kr : R → I → Option Ω} {bk ct : Lp Ω} {env : Env} {rest : List Stmt} {envJ : J → Env} {nm nm2 nm3 : Str} {pos : Pos} {a b c : Expr} {P : Type} {e' : P → Env}
theorem lb_par3 {τ1 τ2 τ3 : Type} {S1 : Stor τ1} {S2 : Stor τ2} {S3 : Stor τ3} {f : ((τ1 × τ2 × τ3 × Unit) → P → Option Ω) → Option Ω} {fr : τ1 → τ2 → τ3 → P → (J → Option Ω) → Option Ω} {px py pz pt : Pos} {kt k2 : Nat} {pt2 : Pos} (i j l : Nat) (hN : X.N.Nodup) (hc : X.calm = true) (ha : LA X env [a, b, c] (fun p : τ1 × τ2 × τ3 × Unit => [.st none τ1 S1 p.1, .st none τ2 S2 p.2.1, .st none τ3 S3 p.2.2.1]) e' f)
    (hr : ∀ x y z p, LB X SR envR kr bk ct ((((e' p).set i (.st none τ1 S1 x)).set j (.st none τ2 S2 y)).set l (.st none τ3 S3 z)) rest envJ (fr x y z p))
    (hi : X.N[i]? = some nm := by rfl) (hj : X.N[j]? = some nm2 := by rfl) (hl3 : X.N[l]? = some nm3 := by rfl) (hij : i ≠ j := by decide) (hil : i ≠ l := by decide) (hjl : j ≠ l := by decide) (hx : X.env.scope.names.lookup nm = some .local := by rfl) (hy : X.env.scope.names.lookup nm2 = some .local := by rfl) (hz : X.env.scope.names.lookup nm3 = some .local := by rfl)
    (hli : ∀ p, i < (e' p).length := by exact (fun _ => Nat.lt_of_sub_eq_succ rfl)) (hlj : ∀ p, j < (e' p).length := by exact (fun _ => Nat.lt_of_sub_eq_succ rfl)) (hll : ∀ p, l < (e' p).length := by exact (fun _ => Nat.lt_of_sub_eq_succ rfl))
    (hw : swappedStores [.Tuple [.Name nm px, .Name nm2 py, .Name nm3 pz] kt pt] (.Tuple [a, b, c] k2 pt2) X.env = pure (some [nm, nm2, nm3]) := by rfl)
    (hs : swapsWithSole [.Tuple [.Name nm px, .Name nm2 py, .Name nm3 pz] kt pt] (.Tuple [a, b, c] k2 pt2) pos.line X.env = pure false := by rfl) :
    LB X SR envR kr bk ct env (.Assign [.Tuple [.Name nm px, .Name nm2 py, .Name nm3 pz] kt pt] (.Tuple [a, b, c] k2 pt2) pos :: rest) envJ (fun kn => f fun r p => fr r.1 r.2.1 r.2.2.1 p kn) :=
  fun C F H σs es σ kn ω D hK hl h hk qn qb qc qr => tSs.of X (pss_cons (ps_par3 hc hN hi hj hl3 hij hil hjl hx hy hz (paC X) hw hs) (pssC X)) (ha C F H σs es σ _ ω _ hK hl h hk fun r p vs F' H' hk' hv h' => by
    match vs, hv with
    | [v, u, t], _ =>
      refine ⟨v, u, t, rfl, ?_⟩
      have h2 := ER.asg (σs := some u :: some t :: σs) (es := .st none τ2 S2 r.2.1 :: .st none τ3 S3 r.2.2.1 :: es) (σ := σ) (env := e' p) h' (by simp [hl]) (hli p)
      have h3 := ER.asg (σs := some t :: σs) (es := .st none τ3 S3 r.2.2.1 :: es) (σ := σ.set i (some v)) h2 (by simp [hl]) (by simpa using hlj p)
      have h4 := ER.asg (σs := σs) (es := es) (σ := (σ.set i (some v)).set j (some u)) h3 hl (by simpa using hll p)
      exact hr r.1 r.2.1 r.2.2.1 p C F' H' σs es _ kn ω D hK hl h4 hk' qn qb qc qr)
end
/-! ### what can be shown -/
structure Sh (k m : Nat) (d : PyData) : Prop where
  lay : d.canLay0 = true
  sho : d.showable = true
  lea : d.leavesShort 13 = true
  blk : d.bulk ≤ m
  dep : d.depth ≤ k
theorem Sh.mono {k m k' m' : Nat} {d : PyData} (h : Sh k m d) (hk : k ≤ k') (hm : m ≤ m') : Sh k' m' d := ⟨h.lay, h.sho, h.lea, Nat.le_trans h.blk hm, Nat.le_trans h.dep hk⟩
theorem Sh.ok {k m : Nat} {d : PyData} (h : Sh k m d) (hk : k ≤ 60) (hm : m ≤ 1000000) : showOk d = true := by
  have d3 : d.shown.length ≤ sizeLine := PyData.shown_fits_bulk (B := 13) (by decide) (by decide) h.lea (by
    have := h.blk
    have : (1000000 : Nat) ≤ 2 ^ 20 := by decide
    omega)
  unfold showOk
  rw [h.lay, h.sho, decide_eq_true (Nat.le_trans h.dep hk), decide_eq_true d3]; rfl
theorem Sh.repr {k m : Nat} {d : PyData} (h : Sh k m d) (hk : k ≤ 60 := by decide) (hm : m ≤ 1000000 := by decide) : reprO d = some d.shown := if_pos (h.ok hk hm)
theorem shI {i : Int} (h : i.natAbs < 10 ^ 12) : Sh 0 0 (.int i) := ⟨rfl, by
  simp only [PyData.showable, decide_eq_true_eq]
  by_cases z : i.natAbs = 0
  · rw [z]; decide
  · exact (Nat.log2_lt z).2 (Nat.lt_of_lt_of_le h (by decide +kernel)), by simp only [PyData.leavesShort, decide_eq_true_eq]; exact PyData.shown_int_le h, Nat.le_refl _, Nat.le_refl _⟩
theorem shN : Sh 0 0 .none := ⟨rfl, rfl, rfl, Nat.le_refl _, Nat.le_refl _⟩
theorem shB {b : Bool} : Sh 0 0 (.bool b) := ⟨rfl, rfl, rfl, Nat.le_refl _, Nat.le_refl _⟩
theorem shS {s : Str} (h1 : PyData.strOk s = true) (h2 : (s.cps.toList.all fun c => decide (c < 16 ^ 8)) = true) (h3 : s.cps.size ≤ m) : Sh 0 m (.str s) := ⟨by rw [PyData.canLay0]; exact h1, rfl, by rw [PyData.leavesShort]; exact h2, by rw [PyData.bulk]; exact h3, Nat.le_refl _⟩
theorem sh_all {k m : Nat} : ∀ (ds : List PyData), (∀ d ∈ ds, Sh k m d) → PyData.canLayAll0 ds = true ∧ PyData.showableAll ds = true ∧ PyData.leavesShortAll 13 ds = true ∧ PyData.bulkAll ds ≤ ds.length * (m + 1) ∧ PyData.depthAll ds ≤ k
  | [], _ => ⟨rfl, rfl, rfl, by simp [PyData.bulkAll], by simp [PyData.depthAll]⟩
  | d :: ds, h => by
    obtain ⟨a, b, c, e, f⟩ := sh_all ds fun x hx => h x (List.mem_cons_of_mem _ hx)
    obtain ⟨a', b', c', e', f'⟩ := h d (List.mem_cons_self ..)
    refine ⟨by rw [PyData.canLayAll0, a', a]; rfl, by rw [PyData.showableAll, b', b]; rfl, by rw [PyData.leavesShortAll, c', c]; rfl, ?_, ?_⟩
    · rw [PyData.bulkAll, List.length_cons, Nat.succ_mul]; omega
    · rw [PyData.depthAll]; omega
theorem shL {k m n : Nat} {ds : List PyData} (h : ∀ d ∈ ds, Sh k m d) (hn : ds.length ≤ n) : Sh (k + 1) (n * (m + 1)) (.list ds) := by
  obtain ⟨a, b, c, e, f⟩ := sh_all ds h
  exact ⟨by rw [PyData.canLay0]; exact a, by rw [PyData.showable]; exact b, by rw [PyData.leavesShort]; exact c, by rw [PyData.bulk]; exact Nat.le_trans e (Nat.mul_le_mul_right _ hn), by rw [PyData.depth]; omega⟩
theorem shV {k m n : Nat} {ds : List PyData} (h : ∀ d ∈ ds, Sh k m d) (hn : ds.length ≤ n) : Sh (k + 1) (n * (m + 1)) (.tuple ds) := by
  obtain ⟨a, b, c, e, f⟩ := sh_all ds h
  exact ⟨by rw [PyData.canLay0]; exact a, by rw [PyData.showable]; exact b, by rw [PyData.leavesShort]; exact c, by rw [PyData.bulk]; exact Nat.le_trans e (Nat.mul_le_mul_right _ hn), by rw [PyData.depth]; omega⟩
/-- tuples by their parts -/
structure ShP (k m : Nat) (ds : List PyData) : Prop where
  lay : PyData.canLayAll0 ds = true
  sho : PyData.showableAll ds = true
  lea : PyData.leavesShortAll 13 ds = true
  blk : PyData.bulkAll ds ≤ m
  dep : PyData.depthAll ds ≤ k
theorem shp0 : ShP 0 0 [] := ⟨rfl, rfl, rfl, by simp [PyData.bulkAll], by simp [PyData.depthAll]⟩
theorem shpC {k m k' m' : Nat} {d : PyData} {ds : List PyData} (h : Sh k m d) (r : ShP k' m' ds) : ShP (max k k') (m + 1 + m') (d :: ds) := ⟨by rw [PyData.canLayAll0, h.lay, r.lay]; rfl, by rw [PyData.showableAll, h.sho, r.sho]; rfl, by rw [PyData.leavesShortAll, h.lea, r.lea]; rfl, by
  have := h.blk; have := r.blk
  rw [PyData.bulkAll]; omega, by
  have := h.dep; have := r.dep
  rw [PyData.depthAll]; omega⟩
theorem shT {k m : Nat} {ds : List PyData} (r : ShP k m ds) : Sh (k + 1) m (.tuple ds) := ⟨by rw [PyData.canLay0]; exact r.lay, by rw [PyData.showable]; exact r.sho, by rw [PyData.leavesShort]; exact r.lea, by rw [PyData.bulk]; exact r.blk, by rw [PyData.depth]; have := r.dep; omega⟩
theorem shTL {k m : Nat} {ds : List PyData} (r : ShP k m ds) : Sh (k + 1) m (.list ds) := ⟨by rw [PyData.canLay0]; exact r.lay, by rw [PyData.showable]; exact r.sho, by rw [PyData.leavesShort]; exact r.lea, by rw [PyData.bulk]; exact r.blk, by rw [PyData.depth]; have := r.dep; omega⟩
theorem Sh.shaped {k m : Nat} {d : PyData} (h : Sh k m d) (hk : k ≤ 64 := by decide) : SeqAt.shaped d = true := shaped_of h.lay (Nat.le_trans h.dep hk)
theorem Sh.refl {k m : Nat} {d : PyData} (h : Sh k m d) : PyData.eqv d d = true := PySem.SeqAt.eqv_refl d h.lay
end Z

set_option Elab.async false
set_option linter.all false
set_option maxRecDepth 100000
namespace Z
open PySem PySem.Spec PyProof.Rows L2
/-! ### plain lemmas for many laws -/
theorem asc_iff : ∀ (es : List Int), es.Pairwise (· < ·) ↔ ∀ i (h : i + 1 < es.length), es[i] < es[i+1]
  | [] => by simp
  | [a] => by simp
  | a :: b :: es => by
    rw [List.pairwise_cons, asc_iff (b :: es)]
    constructor
    · rintro ⟨h1, h2⟩ i hi
      cases i with
      | zero => exact h1 b (List.mem_cons_self ..)
      | succ i => exact h2 i (by simpa using hi)
    · intro h
      have h2 : ∀ i (hi : i + 1 < (b :: es).length), (b :: es)[i] < (b :: es)[i+1] := fun i hi => h (i + 1) (by simpa using hi)
      refine ⟨fun c hc => ?_, h2⟩
      have hab : a < b := h 0 (by simp)
      rcases List.mem_cons.1 hc with rfl | hc
      · exact hab
      · have := (List.pairwise_cons.1 ((asc_iff (b :: es)).2 h2)).1 c hc
        omega
section
variable {α β S Ω : Type}
theorem rangeL_cons' {lo hi : Int} (h : lo < hi) : rangeL lo hi = lo :: rangeL (lo + 1) hi := by
  unfold rangeL
  have e : (hi - lo).toNat = (hi - (lo + 1)).toNat + 1 := by omega
  rw [e, List.range_succ_eq_map, List.map_cons, List.map_map]
  congr 1
  · simp
  · apply List.map_congr_left; intro i _; simp only [Function.comp]; omega
theorem rangeL_nil {lo hi : Int} (h : hi ≤ lo) : rangeL lo hi = [] := by
  unfold rangeL
  rw [show (hi - lo).toNat = 0 by omega]; rfl
theorem mem_rng {lo hi x : Int} : x ∈ rangeL lo hi ↔ lo ≤ x ∧ x < hi := by
  unfold rangeL
  simp only [List.mem_map, List.mem_range]
  constructor
  · rintro ⟨i, hi, rfl⟩; omega
  · rintro ⟨a, b⟩; exact ⟨(x - lo).toNat, by omega, by omega⟩
theorem rng_len {lo hi : Int} : (rangeL lo hi).length = (hi - lo).toNat := by simp [rangeL]
theorem rgOk_s {lo hi : Int} (h1 : -1000000000 ≤ lo) (h2 : lo ≤ 1000000000) (h3 : -1000000000 ≤ hi) (h4 : hi ≤ 1000000000) : rgOk lo hi = true := decide_eq_true ⟨by omega, by omega, by omega, by omega⟩
theorem atI_some {xs : List α} {i : Int} (h0 : 0 ≤ i) (h1 : i < xs.length) : atI xs i = some (xs[i.toNat]'(by omega)) := by
  obtain ⟨k, hk, rfl, e⟩ := atI_pos (xs := xs) h0 h1
  rw [e]; simp
theorem atI_neg {xs : List α} (h : xs ≠ []) : atI xs (-(1 : Int)) = some (xs.getLast h) := by
  have hl : 0 < xs.length := List.length_pos_iff.2 h
  unfold atI ixN
  rw [if_neg (by decide), if_pos (by omega)]
  show xs[_]? = _
  rw [List.getLast_eq_getElem, show (-(1 : Int) + (xs.length : Int)).toNat = xs.length - 1 by omega, List.getElem?_eq_getElem]
theorem forO_congr {b b' : α → S → (S → Option Ω) → Option Ω} {k : S → Option Ω} : ∀ (xs : List α) (s : S), (∀ x ∈ xs, ∀ s kc, b x s kc = b' x s kc) → forO xs s b k = forO xs s b' k
  | [], _, _ => rfl
  | x :: xs, s, h => by
    show b x s _ = b' x s _
    rw [h x (List.mem_cons_self ..)]
    congr 1
    funext s'
    exact forO_congr xs s' fun y m => h y (List.mem_cons_of_mem _ m)
theorem compO_congr {b b' : α → S → (Option β → S → Option Ω) → Option Ω} {k : List β → S → Option Ω} : ∀ (xs : List α) (s : S) (acc : List β), (∀ x ∈ xs, ∀ s kc, b x s kc = b' x s kc) → compO xs s b acc k = compO xs s b' acc k
  | [], _, _, _ => rfl
  | x :: xs, s, acc, h => by
    show b x s _ = b' x s _
    rw [h x (List.mem_cons_self ..)]
    congr 1
    funext y s'
    cases y with
    | none => exact compO_congr xs s' acc fun y m => h y (List.mem_cons_of_mem _ m)
    | some y => show ck _ _ = ck _ _; rw [compO_congr xs s' _ fun y m => h y (List.mem_cons_of_mem _ m)]
/-- a walk over the places of a list is a walk over its members -/
theorem forO_ix {xs : List α} {b : Int → S → (S → Option Ω) → Option Ω} {b' : α → S → (S → Option Ω) → Option Ω} {k : S → Option Ω} {s : S} (h : ∀ i (hi : i < xs.length) s kc, b (i : Int) s kc = b' xs[i] s kc) : forO (rangeL 0 (xs.length : Int)) s b k = forO xs s b' k := by
  suffices ∀ (ys : List α) (n : Nat), (∀ i (hi : i < ys.length) s kc, b ((n + i : Nat) : Int) s kc = b' ys[i] s kc) → ∀ s, forO (rangeL (n : Int) ((n + ys.length : Nat) : Int)) s b k = forO ys s b' k by
    have := this xs 0 (fun i hi s kc => by rw [Nat.zero_add]; exact h i hi s kc) s
    simpa using this
  intro ys
  induction ys with
  | nil => intro n _ s; rw [rangeL_nil (by simp)]; rfl
  | cons y ys ih =>
    intro n h s
    rw [rangeL_cons' (by simp only [List.length_cons]; omega)]
    show b (n : Int) s _ = b' y s _
    rw [show (n : Int) = ((n + 0 : Nat) : Int) by omega, h 0 (by simp) s]
    congr 1
    funext s'
    have := ih (n + 1) (fun i hi s kc => by
      have := h (i + 1) (by simpa using hi) s kc
      rw [show n + 1 + i = n + (i + 1) by omega]; simpa using this) s'
    rw [← this, show ((n + 0 : Nat) : Int) + 1 = ((n + 1 : Nat) : Int) by omega, show ((n + (y :: ys).length : Nat) : Int) = ((n + 1 + ys.length : Nat) : Int) by simp only [List.length_cons]; omega]
theorem compO_ix {xs : List α} {b : Int → S → (Option β → S → Option Ω) → Option Ω} {b' : α → S → (Option β → S → Option Ω) → Option Ω} {k : List β → S → Option Ω} {s : S} {acc : List β} (h : ∀ i (hi : i < xs.length) s kc, b (i : Int) s kc = b' xs[i] s kc) : compO (rangeL 0 (xs.length : Int)) s b acc k = compO xs s b' acc k := by
  suffices ∀ (ys : List α) (n : Nat), (∀ i (hi : i < ys.length) s kc, b ((n + i : Nat) : Int) s kc = b' ys[i] s kc) → ∀ s acc, compO (rangeL (n : Int) ((n + ys.length : Nat) : Int)) s b acc k = compO ys s b' acc k by
    have := this xs 0 (fun i hi s kc => by rw [Nat.zero_add]; exact h i hi s kc) s acc
    simpa using this
  intro ys
  induction ys with
  | nil => intro n _ s acc; rw [rangeL_nil (by simp)]; rfl
  | cons y ys ih =>
    intro n h s acc
    rw [rangeL_cons' (by simp only [List.length_cons]; omega)]
    show b (n : Int) s _ = b' y s _
    rw [show (n : Int) = ((n + 0 : Nat) : Int) by omega, h 0 (by simp) s]
    congr 1
    funext z s'
    have e := fun acc => ih (n + 1) (fun i hi s kc => by
      have := h (i + 1) (by simpa using hi) s kc
      rw [show n + 1 + i = n + (i + 1) by omega]; simpa using this) s' acc
    have er : rangeL ((n + 0 : Nat) + 1 : Int) ((n + (y :: ys).length : Nat) : Int) = rangeL ((n + 1 : Nat) : Int) ((n + 1 + ys.length : Nat) : Int) := by
      rw [show ((n + 0 : Nat) : Int) + 1 = ((n + 1 : Nat) : Int) by omega, show ((n + (y :: ys).length : Nat) : Int) = ((n + 1 + ys.length : Nat) : Int) by simp only [List.length_cons]; omega]
    rw [er]
    cases z with
    | none => exact e acc
    | some z => show ck _ _ = ck _ _; rw [e]
theorem enumL_cons (x : α) (xs : List α) : enumL (x :: xs) = (0, x) :: (enumL xs).map fun p => (p.1 + 1, p.2) := by
  unfold enumL
  rw [List.zipIdx_cons]
  simp [List.zipIdx_succ, List.map_map, Function.comp]
theorem enumL_len (xs : List α) : (enumL xs).length = xs.length := by simp [enumL]
theorem mem_enumL {xs : List α} {p : Int × α} : p ∈ enumL xs ↔ ∃ i : Nat, p.1 = i ∧ xs[i]? = some p.2 := by
  unfold enumL
  simp only [List.mem_map, List.mem_zipIdx_iff_getElem?]
  constructor
  · rintro ⟨q, h, rfl⟩; exact ⟨q.2, rfl, h⟩
  · rintro ⟨i, h1, h2⟩; exact ⟨(p.2, i), h2, by rw [← h1]⟩
/-- a list of `rising` tests -/
theorem rise_ok {es : List Int} (hl : es.length ≤ 1000000) : ∃ bs : List Bool, bs.all id = decide (es.Pairwise (· < ·)) ∧ ∀ k : List Bool → Unit → Option Ω,
    compO (rangeL 0 ((es.length : Int) - 1)) () (fun x (_ : Unit) kc => (atI es x).bind fun y => (atI es (x + 1)).bind fun z => kc (some (decide (y < z))) ()) [] k = k bs () := by
  refine ⟨(rangeL 0 ((es.length : Int) - 1)).map fun i => decide (es.getD i.toNat 0 < es.getD (i.toNat + 1) 0), ?_, fun k => ?_⟩
  · rw [Bool.eq_iff_iff, List.all_eq_true, decide_eq_true_eq, asc_iff]
    simp only [List.mem_map, mem_rng, id]
    constructor
    · intro h i hi
      have := h _ ⟨(i : Int), ⟨by omega, by omega⟩, rfl⟩
      rw [decide_eq_true_eq] at this
      simpa [List.getD_eq_getElem?_getD, List.getElem?_eq_getElem hi, List.getElem?_eq_getElem (show i < es.length by omega)] using this
    · rintro h _ ⟨i, ⟨h0, h1⟩, rfl⟩
      have := h i.toNat (by omega)
      rw [decide_eq_true_eq]
      simpa [List.getD_eq_getElem?_getD, List.getElem?_eq_getElem (show i.toNat + 1 < es.length by omega), List.getElem?_eq_getElem (show i.toNat < es.length by omega)] using this
  · refine (compO_map (fun i : Int => decide (es.getD i.toNat 0 < es.getD (i.toNat + 1) 0)) () _ [] (by rw [rng_len]; show _ ≤ 16777216; simp only [List.length_nil]; omega) fun x mx kc => ?_).trans (by rw [List.nil_append])
    obtain ⟨h0, h1⟩ := mem_rng.1 mx
    rw [atI_some h0 (by omega), Option.bind_some, atI_some (by omega) (by omega), Option.bind_some]
    simp only [List.getD_eq_getElem?_getD, List.getElem?_eq_getElem (show x.toNat < es.length by omega), List.getElem?_eq_getElem (show x.toNat + 1 < es.length by omega), Option.getD_some, show (x + 1).toNat = x.toNat + 1 by omega]
theorem usort_eq_iff {es : List Int} : es = usort es ↔ es.Pairwise (· < ·) := ⟨fun e => by rw [e]; exact usort_pw es, fun p => usort_is p fun _ => Iff.rfl⟩
theorem usort_len (xs : List Int) : (usort xs).length ≤ xs.length := by
  induction xs with
  | nil => simp [usort]
  | cons x xs ih =>
    simp only [usort]
    split
    · simp; omega
    · have : ((usort xs).filter (· < x)).length + ((usort xs).filter (x < ·)).length ≤ (usort xs).length := by
        generalize usort xs = ys
        clear ih
        induction ys with
        | nil => simp
        | cons y ys ih =>
          simp only [List.filter_cons, List.length_cons]
          by_cases c : y < x
          · have d : ¬ x < y := by omega
            simp [c, d]; omega
          · by_cases d : x < y
            · simp [c, d]; omega
            · simp [c, d]; omega
      simp; omega
/-! ### all sets, one after the other -/
def subs (xs : List α) : List (List α) := xs.foldl (fun s k => s ++ s.map (· ++ [k])) [[]]
theorem subs_mem' : ∀ (xs : List α) (acc : List (List α)) (row : List α), row ∈ xs.foldl (fun s k => s ++ s.map (· ++ [k])) acc ↔ ∃ a ∈ acc, ∃ s, List.Sublist s xs ∧ row = a ++ s
  | [], acc, row => by
    constructor
    · intro h; exact ⟨row, h, [], List.Sublist.refl _, by simp⟩
    · rintro ⟨a, ha, s, hs, rfl⟩
      rw [List.sublist_nil.1 hs, List.append_nil]; exact ha
  | x :: xs, acc, row => by
    rw [List.foldl_cons, subs_mem' xs]
    constructor
    · rintro ⟨a, ha, s, hs, rfl⟩
      rcases List.mem_append.1 ha with ha | ha
      · exact ⟨a, ha, s, hs.cons x, rfl⟩
      · obtain ⟨b, hb, rfl⟩ := List.mem_map.1 ha
        exact ⟨b, hb, x :: s, hs.cons_cons x, by simp⟩
    · rintro ⟨a, ha, s, hs, rfl⟩
      cases hs with
      | cons _ h => exact ⟨a, List.mem_append_left _ ha, _, h, rfl⟩
      | cons_cons _ h => exact ⟨a ++ [x], List.mem_append_right _ (List.mem_map.2 ⟨a, ha, rfl⟩), _, h, by simp⟩
theorem mem_subs {xs row : List α} : row ∈ subs xs ↔ List.Sublist row xs := by
  unfold subs
  rw [subs_mem']
  simp
theorem subs_len' : ∀ (xs : List α) (acc : List (List α)), (xs.foldl (fun s k => s ++ s.map (· ++ [k])) acc).length = acc.length * 2 ^ xs.length
  | [], acc => by simp
  | x :: xs, acc => by
    rw [List.foldl_cons, subs_len' xs, List.length_append, List.length_map, List.length_cons, Nat.pow_succ, ← Nat.two_mul, Nat.mul_comm 2, Nat.mul_assoc, Nat.mul_comm 2]
theorem subs_len (xs : List α) : (subs xs).length = 2 ^ xs.length := by
  unfold subs; rw [subs_len']; simp
/-- the walk that builds them -/
theorem sets_walk {k : List (List α) → Option Ω} : ∀ (xs : List α) (acc : List (List α)), (∀ a ∈ acc, a.length + xs.length ≤ 1000) → acc.length * 2 ^ xs.length ≤ 1000000 →
    forO xs acc (fun x t kc => compO t () (fun row (_ : Unit) kc2 => ck (decide (row.length + [x].length ≤ SZ)) (kc2 (some (row ++ [x])) ())) [] fun ys (_ : Unit) => ck (decide (t.length + ys.length ≤ SZ)) (kc (t ++ ys))) k = k (xs.foldl (fun s k => s ++ s.map (· ++ [k])) acc)
  | [], acc, _, _ => rfl
  | x :: xs, acc, h1, h2 => by
    rw [List.length_cons, Nat.pow_succ] at h2
    have hp : 1 ≤ 2 ^ xs.length := Nat.one_le_two_pow
    have hacc : acc.length * 2 ≤ 1000000 := by
      have : acc.length * 2 * 1 ≤ acc.length * 2 * 2 ^ xs.length := Nat.mul_le_mul_left _ hp
      rw [Nat.mul_comm (2 ^ xs.length), ← Nat.mul_assoc] at h2
      omega
    show compO acc () _ [] _ = _
    have hS : (1000000 : Nat) ≤ SZ := by decide
    rw [compO_map (fun row : List α => row ++ [x]) () acc [] (by simp; omega) fun row m kc => by
      have := h1 row m
      simp only [List.length_cons, List.length_nil] at this ⊢
      rw [decide_eq_true (by omega), ck_true], List.nil_append, List.length_map, decide_eq_true (by omega), ck_true]
    refine sets_walk xs _ (fun a ha => ?_) ?_
    · rcases List.mem_append.1 ha with ha | ha
      · have := h1 a ha; simp at this; omega
      · obtain ⟨b, hb, rfl⟩ := List.mem_map.1 ha
        have := h1 b hb; simp at this ⊢; omega
    · rw [List.length_append, List.length_map, ← Nat.two_mul, Nat.mul_comm 2, Nat.mul_assoc, Nat.mul_comm 2]; exact h2
end
/-! ### least, greatest -/
theorem minI_of {l : List Int} {m : Int} (hm : m ∈ l) (h : ∀ y ∈ l, m ≤ y) : minI l = some m := by
  cases l with
  | nil => cases hm
  | cons x xs =>
    show some (xs.foldl min x) = _
    congr 1
    exact (minI_is rfl hm h).symm
theorem maxI_of {l : List Int} {m : Int} (hm : m ∈ l) (h : ∀ y ∈ l, y ≤ m) : maxI l = some m := by
  cases l with
  | nil => cases hm
  | cons x xs =>
    show some (xs.foldl max x) = _
    congr 1
    exact (maxI_is rfl hm h).symm
theorem minI_some {l : List Int} (h : l ≠ []) : ∃ m, minI l = some m ∧ m ∈ l ∧ ∀ y ∈ l, m ≤ y := by
  cases l with
  | nil => exact absurd rfl h
  | cons x xs =>
    refine ⟨xs.foldl min x, rfl, ?_, fun y m => ?_⟩
    · rcases foldl_min_mem xs x with e | e
      · rw [e]; exact List.mem_cons_self ..
      · exact List.mem_cons_of_mem _ e
    · rcases List.mem_cons.1 m with rfl | m
      · exact (foldl_min_le xs y).1
      · exact (foldl_min_le xs x).2 y m
theorem maxI_some {l : List Int} (h : l ≠ []) : ∃ m, maxI l = some m ∧ m ∈ l ∧ ∀ y ∈ l, y ≤ m := by
  cases l with
  | nil => exact absurd rfl h
  | cons x xs =>
    refine ⟨xs.foldl max x, rfl, ?_, fun y m => ?_⟩
    · rcases foldl_max_mem xs x with e | e
      · rw [e]; exact List.mem_cons_self ..
      · exact List.mem_cons_of_mem _ e
    · rcases List.mem_cons.1 m with rfl | m
      · exact (foldl_max_le xs y).1
      · exact (foldl_max_le xs x).2 y m
theorem lpp_tot {x y : Int × Int} (h : lpp x y = false) (g : lpp y x = false) : x = y := by
  rw [lpp_no] at h g
  exact Prod.ext (by omega) (by omega)
theorem minB_some {l : List (Int × Int)} (h : l ≠ []) : ∃ m, minB lpp l = some m ∧ m ∈ l ∧ ∀ y ∈ l, lpp y m = false := by
  suffices ∀ (xs : List (Int × Int)) (x : Int × Int), ∃ m, xs.foldl (fun a y => if lpp y a = true then y else a) x = m ∧ m ∈ x :: xs ∧ ∀ y ∈ x :: xs, lpp y m = false by
    cases l with
    | nil => exact absurd rfl h
    | cons x xs =>
      obtain ⟨m, e, a, b⟩ := this xs x
      exact ⟨m, congrArg some e, a, b⟩
  intro xs
  induction xs with
  | nil => intro x; exact ⟨x, rfl, List.mem_cons_self .., fun y m => by simp at m; subst m; rw [lpp_no]; omega⟩
  | cons z xs ih =>
    intro x
    rw [List.foldl_cons]
    obtain ⟨m, e, a, b⟩ := ih (if lpp z x = true then z else x)
    refine ⟨m, e, ?_, fun y hy => ?_⟩
    · rcases List.mem_cons.1 a with rfl | a
      · split
        · simp
        · simp
      · simp [a]
    · have bx := b _ (List.mem_cons_self ..)
      rcases List.mem_cons.1 hy with rfl | hy
      · by_cases c : lpp z y = true
        · rw [if_pos c] at bx
          rw [lpp_no] at bx ⊢
          rw [lpp_iff] at c
          omega
        · rw [if_neg c] at bx; exact bx
      · rcases List.mem_cons.1 hy with rfl | hy
        · by_cases c : lpp y x = true
          · rw [if_pos c] at bx; exact bx
          · rw [if_neg c] at bx
            have c' : lpp y x = false := by simpa using c
            rw [lpp_no] at bx c' ⊢
            omega
        · exact b y (List.mem_cons_of_mem _ hy)
/-! ### slices -/
theorem cutL_nat {α : Type} {xs : List α} {i j : Nat} (hj : j ≤ xs.length) : cutL xs (some (i : Int)) (some (j : Int)) = (xs.drop i).take (j - i) := by
  unfold cutL
  rw [HT.sIx_nat, HT.sIx_nat, Nat.min_eq_left hj]
  by_cases h : i ≤ xs.length
  · rw [Nat.min_eq_left h]
  · rw [Nat.min_eq_right (by omega), List.drop_of_length_le (Nat.le_refl _), List.drop_of_length_le (by omega)]
    simp
theorem cutL_from {α : Type} {xs : List α} {i : Nat} : cutL xs (some (i : Int)) none = xs.drop i := by
  unfold cutL
  rw [HT.sIx_nat, HT.sIx_none]
  by_cases h : i ≤ xs.length
  · rw [Nat.min_eq_left h, List.take_of_length_le (by simp)]
  · rw [Nat.min_eq_right (by omega), List.drop_of_length_le (Nat.le_refl _), List.drop_of_length_le (by omega)]; simp
theorem cutL_to {α : Type} {xs : List α} {j : Nat} : cutL xs none (some (j : Int)) = xs.take j := by
  unfold cutL
  rw [HT.sIx_nat, HT.sIx_none, List.drop_zero, Nat.sub_zero]
  by_cases h : j ≤ xs.length
  · rw [Nat.min_eq_left h]
  · rw [Nat.min_eq_right (by omega), List.take_of_length_le (Nat.le_refl _), List.take_of_length_le (by omega)]
theorem cutL_last {α : Type} (xs : List α) : cutL xs (some (-(1 : Int))) none = xs.drop (xs.length - 1) := by
  have e : HT.sIx xs.length 0 (some (-(1 : Int))) = xs.length - 1 := by
    show (if (-(1 : Int)) < 0 then (-(1 : Int) + (xs.length : Int)).toNat else min (-(1 : Int)).toNat xs.length) = _
    rw [if_pos (by decide)]; omega
  unfold cutL
  rw [e, HT.sIx_none, List.take_of_length_le (by simp)]
theorem sum_sub : ∀ {xs ys : List Int}, List.Sublist xs ys → (∀ y ∈ ys, 0 ≤ y) → 0 ≤ xs.sum ∧ xs.sum ≤ ys.sum := by
  intro xs ys h
  induction h with
  | slnil => simp
  | cons a h ih => intro hy; have := ih fun y m => hy y (List.mem_cons_of_mem _ m); have := hy a (List.mem_cons_self ..); simp only [List.sum_cons]; omega
  | cons_cons a h ih => intro hy; have := ih fun y m => hy y (List.mem_cons_of_mem _ m); have := hy a (List.mem_cons_self ..); simp only [List.sum_cons]; omega
theorem cutL_sub {α : Type} (xs : List α) (a b : Option Int) : List.Sublist (cutL xs a b) xs := by
  unfold cutL
  exact (List.take_sublist _ _).trans (List.drop_sublist _ _)
theorem sum_le_len {xs : List Int} {m : Int} (h : ∀ x ∈ xs, x ≤ m) : xs.sum ≤ m * xs.length := by
  induction xs with
  | nil => simp
  | cons x xs ih =>
    have := ih fun y hy => h y (List.mem_cons_of_mem _ hy)
    have := h x (List.mem_cons_self ..)
    rw [List.sum_cons, List.length_cons]
    have e : m * ((xs.length + 1 : Nat) : Int) = m * xs.length + m := by
      rw [show ((xs.length + 1 : Nat) : Int) = (xs.length : Int) + 1 by omega, Int.mul_add, Int.mul_one]
    omega
end Z
namespace Z
open PySem PySem.Spec PyProof.Rows L2
section
variable {α β S Ω : Type}
/-- a walk that ends somehow -/
theorem forO_ex {Pr : Ω → Prop} (Inv : S → Prop) {b : α → S → (S → Option Ω) → Option Ω} {k : S → Option Ω} : ∀ {xs : List α} {s : S}, Inv s →
    (∀ s x, x ∈ xs → Inv s → ∀ kc : S → Option Ω, (∀ s', Inv s' → ∃ r, kc s' = some r ∧ Pr r) → ∃ r, b x s kc = some r ∧ Pr r) → (∀ s, Inv s → ∃ r, k s = some r ∧ Pr r) → ∃ r, forO xs s b k = some r ∧ Pr r
  | [], s, h0, _, he => he s h0
  | x :: xs, s, h0, hs, he => hs s x (List.mem_cons_self ..) h0 _ fun s' h' => forO_ex Inv h' (fun s y m => hs s y (List.mem_cons_of_mem _ m)) he
theorem ite_wp {c : Prop} [Decidable c] {x y : Option Ω} {ω : Ω} (h1 : c → x = some ω) (h2 : ¬ c → y = some ω) : (if c then x else y) = some ω := by
  split
  · exact h1 ‹_›
  · exact h2 ‹_›
theorem ite_d {c : Prop} [Decidable c] {Γ : Type} {x y : Γ} : (if (decide c) = true then x else y) = if c then x else y := by
  by_cases h : c
  · rw [if_pos h, if_pos (decide_eq_true h)]
  · rw [if_neg h, if_neg (by simpa using h)]
theorem ite_nd {c : Prop} [Decidable c] {Γ : Type} {x y : Γ} : (if (!decide c) = true then x else y) = if c then y else x := by
  by_cases h : c
  · rw [if_pos h, decide_eq_true h, if_neg (by decide)]
  · rw [if_neg h, decide_eq_false h, if_pos (by decide)]
theorem ite_t {Γ : Type} {x y : Γ} : (if (true : Bool) = true then x else y) = x := rfl
theorem ite_f {Γ : Type} {x y : Γ} : (if (false : Bool) = true then x else y) = y := rfl
theorem ite_nt {Γ : Type} {x y : Γ} : (if (!(true : Bool)) = true then x else y) = y := rfl
theorem ite_nf {Γ : Type} {x y : Γ} : (if (!(false : Bool)) = true then x else y) = x := rfl
theorem len_pos_d {xs : List α} : (decide ((0 : Int) < (xs.length : Int))) = !xs.isEmpty := by
  cases xs <;> simp
theorem ck_pos {b : Bool} {k : Option Ω} (h : b = true) : ck b k = k := by rw [h]; rfl
end
end Z
namespace Z
open PySem PySem.Spec PyProof.Rows L2
section
variable {α β S Ω : Type}
theorem forO_exN {Pr : Ω → Prop} (Inv : Nat → S → Prop) {b : α → S → (S → Option Ω) → Option Ω} {k : S → Option Ω} : ∀ (xs : List α) (n : Nat) (s : S), Inv n s →
    (∀ i s x, xs[i]? = some x → Inv (n + i) s → ∀ kc : S → Option Ω, (∀ s', Inv (n + i + 1) s' → ∃ r, kc s' = some r ∧ Pr r) → ∃ r, b x s kc = some r ∧ Pr r) → (∀ s, Inv (n + xs.length) s → ∃ r, k s = some r ∧ Pr r) → ∃ r, forO xs s b k = some r ∧ Pr r
  | [], n, s, h0, _, he => he s h0
  | x :: xs, n, s, h0, hs, he => hs 0 s x rfl h0 _ fun s' h' => forO_exN Inv xs (n + 1) s' h'
      (fun i s y e h kc hk => hs (i + 1) s y e (by rw [show n + (i + 1) = n + 1 + i by omega]; exact h) kc fun s' h' => hk s' (by rw [show n + 1 + i + 1 = n + (i + 1) + 1 by omega]; exact h'))
      fun s h => he s (by rw [show n + (x :: xs).length = n + 1 + xs.length by simp; omega]; exact h)
theorem enumL_rng {xs : List α} (d : α) : enumL xs = (rangeL 0 (xs.length : Int)).map fun i => (i, xs.getD i.toNat d) := by
  rw [rangeL_nat, List.map_map]
  refine List.ext_getElem? fun i => ?_
  rw [enumL_get, List.getElem?_map]
  by_cases h : i < xs.length
  · rw [List.getElem?_range h]; simp [List.getElem?_eq_getElem h, List.getD_eq_getElem?_getD]
  · rw [List.getElem?_eq_none (by omega), List.getElem?_eq_none (by simp; omega)]; rfl
end
end Z
namespace Z
open PySem PySem.Spec PyProof.Rows L2
section
variable {α β S Ω : Type}
/-- a walk that goes through and leaves something -/
theorem forO_run (Inv : Nat → S → Prop) {b : α → S → (S → Option Ω) → Option Ω} : ∀ (xs : List α) (n : Nat) (s : S), Inv n s → (∀ i s x, xs[i]? = some x → Inv (n + i) s → ∃ s', Inv (n + i + 1) s' ∧ ∀ kc, b x s kc = kc s') → ∃ s', Inv (n + xs.length) s' ∧ ∀ k, forO xs s b k = k s'
  | [], n, s, h, _ => ⟨s, h, fun _ => rfl⟩
  | x :: xs, n, s, h, hs => by
    obtain ⟨s1, h1, e1⟩ := hs 0 s x rfl h
    obtain ⟨s2, h2, e2⟩ := forO_run Inv xs (n + 1) s1 h1 fun i s y hy hi => by
      have := hs (i + 1) s y hy (by rw [show n + (i + 1) = n + 1 + i by omega]; exact hi)
      rwa [show n + (i + 1) + 1 = n + 1 + i + 1 by omega] at this
    exact ⟨s2, by rw [show n + (x :: xs).length = n + 1 + xs.length by simp; omega]; exact h2, fun k => (e1 _).trans (e2 k)⟩
/-- a walk that sifts into a list -/
theorem forO_filt (f : α → Option β) {b : α → List β → (List β → Option Ω) → Option Ω} {k : List β → Option Ω} : ∀ (xs : List α) (acc : List β), acc.length + xs.length ≤ SZ → (∀ x ∈ xs, ∀ t kc, t.length < SZ → b x t kc = kc (t ++ (f x).toList)) → forO xs acc b k = k (acc ++ xs.filterMap f)
  | [], acc, _, _ => by simp [forO]
  | x :: xs, acc, hl, h => by
    rw [List.length_cons] at hl
    show b x acc _ = _
    rw [h x (List.mem_cons_self ..) acc _ (by omega), List.filterMap_cons]
    cases f x with
    | none =>
      rw [Option.toList_none, List.append_nil]
      exact forO_filt f xs acc (by omega) fun y m => h y (List.mem_cons_of_mem _ m)
    | some y =>
      rw [Option.toList_some, forO_filt f xs (acc ++ [y]) (by simp; omega) fun y m => h y (List.mem_cons_of_mem _ m)]
      simp
/-- a while that ends: by a measure -/
theorem whileO_run (Inv : S → Prop) (ms : S → Nat) (done : S → Prop) {b : S → (S → Option Ω) → Option Ω} (hstep : ∀ s, Inv s → ¬ done s → ∃ s', Inv s' ∧ ms s' < ms s ∧ ∀ kc, b s kc = kc s') : ∀ (fu : Nat) (s : S), ms s < fu → Inv s → ∃ s', Inv s' ∧ done s' ∧ ∃ fu', whileO fu s b = whileO (fu' + 1) s' b
  | 0, s, h, _ => absurd h (Nat.not_lt_zero _)
  | fu + 1, s, h, hi => by
    by_cases hd : done s
    · exact ⟨s, hi, hd, fu, rfl⟩
    · obtain ⟨s1, i1, m1, e1⟩ := hstep s hi hd
      obtain ⟨s2, i2, d2, f2, e2⟩ := whileO_run Inv ms done hstep fu s1 (by omega) i1
      exact ⟨s2, i2, d2, f2, (e1 _).trans e2⟩
end
end Z
namespace Z
open PySem PySem.Spec PyProof.Rows L2
/-! ### words of faults -/
def wd (s : Str) : PyData := .tuple [.str s]
def wd1 (s : Str) (k : Int) : PyData := .tuple [.str s, .int k]
def wd2 (s : Str) (i j : Int) : PyData := .tuple [.str s, .int i, .int j]
theorem shaped_wd {s : Str} (h : PyData.strOk s = true) : SeqAt.shaped (wd s) = true := by
  simp [SeqAt.shaped, wd, PyData.canLay0, PyData.canLayAll0, PyData.depth, PyData.depthAll, h]
theorem shaped_wd1 {s : Str} {k : Int} (h : PyData.strOk s = true) : SeqAt.shaped (wd1 s k) = true := by
  simp [SeqAt.shaped, wd1, PyData.canLay0, PyData.canLayAll0, PyData.depth, PyData.depthAll, h]
theorem shaped_wd2 {s : Str} {i j : Int} (h : PyData.strOk s = true) : SeqAt.shaped (wd2 s i j) = true := by
  simp [SeqAt.shaped, wd2, PyData.canLay0, PyData.canLayAll0, PyData.depth, PyData.depthAll, h]
theorem shaped_none : SeqAt.shaped PyData.none = true := by decide
theorem shaped_eqv {d : PyData} (h : SeqAt.shaped d = true) : PyData.eqv d d = true := PySem.SeqAt.eqv_refl d (SeqAt.canLay_of_shaped h)
/-- lists of ints that are shown -/
def Bnd (n : Nat) (xs : List Int) : Prop := xs.length ≤ n ∧ ∀ x ∈ xs, x.natAbs < 10 ^ 12
theorem shInts {n : Nat} {xs : List Int} (h : Bnd n xs) : Sh 1 (n * 1) ((eL eI).enc xs) := by
  have := shL (k := 0) (m := 0) (n := n) (ds := xs.map eI.enc) (fun d m => by obtain ⟨x, mx, rfl⟩ := List.mem_map.1 m; exact shI (h.2 x mx)) (by simpa using h.1)
  exact this
theorem rangeL_asc {lo hi : Int} : (rangeL lo hi).Pairwise (· < ·) := by
  unfold rangeL
  rw [List.pairwise_map]
  exact List.pairwise_lt_range.imp fun {a b} h => by omega
theorem asc_sublist {hi : Int} : ∀ (n : Nat) (lo : Int) (row : List Int), (hi - lo).toNat = n → row.Pairwise (· < ·) → (∀ x ∈ row, lo ≤ x ∧ x < hi) → List.Sublist row (rangeL lo hi)
  | _, lo, [], _, _, _ => List.nil_sublist _
  | 0, lo, x :: row, hn, _, h => by have := h x (List.mem_cons_self ..); omega
  | n + 1, lo, x :: row, hn, p, h => by
    have hx := h x (List.mem_cons_self ..)
    rw [rangeL_cons' (by omega)]
    obtain ⟨p1, p2⟩ := List.pairwise_cons.1 p
    by_cases e : x = lo
    · subst e
      exact List.Sublist.cons_cons _ (asc_sublist n (x + 1) row (by omega) p2 fun y m => ⟨by have := p1 y m; omega, (h y (List.mem_cons_of_mem _ m)).2⟩)
    · refine List.Sublist.cons _ (asc_sublist n (lo + 1) (x :: row) (by omega) p fun y m => ⟨?_, (h y m).2⟩)
      rcases List.mem_cons.1 m with rfl | m
      · omega
      · have := p1 y m; omega
end Z

set_option Elab.async false
set_option linter.all false
set_option maxRecDepth 100000
namespace Z
open PySem PySem.Spec PyProof.Rows L2
section
variable {X : Cx} {Ω : Type} {env : Env} {nm : Str} {pos np rp p2 : Pos} {a b e : Expr} {P P1 P2 : Type} {e' : P → Env} {e1 : P1 → Env} {e2 : P1 → P2 → Env}
/-- a whole number of the top -/
theorem lx_gI {n : Int} (h : ∃ t, X.mg nm = some (.int n t)) (hg : Gl X nm := by rfl) (hd : (nm == ("__debug__" : Str)) = false := by decide) : LX X env (.Name nm pos) (it eI) (fun _ : Unit => env) (fun (k : Int → Unit → Option Ω) => k n ()) := by
  obtain ⟨t, h⟩ := h
  exact lx_c (pe_glob (v := .int n) hg h ⟨t, rfl⟩ hd) fun _ => .int n
/-- list(range(n)) -/
theorem rgV_eq (lo hi : Int) : rgV lo hi = (rangeL lo hi).map V.int := by
  unfold rgV rangeL
  rw [List.map_map]; rfl
theorem lx_listrg1 {f : (Int → P → Option Ω) → Option Ω} (hc : X.calm = true) (hm : X.mg "list" = none) (hm2 : X.mg "range" = none) (ha : LX X env a (it eI) e' f) (hg : Gl X "list" := by rfl) (hg2 : Gl X "range" := by rfl)
    (na : starEach [a] X.env = (false, eval a X.env) :: starEach [] X.env := by rfl) (nb : starEach [Expr.Call (.Name "range" rp) [a] [] p2] X.env = (false, eval (Expr.Call (.Name "range" rp) [a] [] p2) X.env) :: starEach [] X.env := by rfl) :
    LX X env (.Call (.Name "list" np) [.Call (.Name "range" rp) [a] [] p2] [] pos) (ls (it eI)) e' (fun k => f fun n p => ck (decide (-(2 ^ 62) ≤ n ∧ n ≤ 16777216)) (k (rangeL 0 n) p)) :=
  fun C F H σs es σ k ω Q hK hl h hk q => tE.of X (pe_listRg hc hg hm (prg_1 hg2 hm2 (peC X) na) nb) (lo_run (lo_of ha) (fun _ => trivial) hK hl h hk fun n p v F' H' fp hk' h' rr => by
    obtain ⟨hc, hk2⟩ := ck_some hk'
    obtain ⟨_, rr⟩ := rr
    cases rr
    have hc := of_decide_eq_true hc
    refine ⟨n, rfl, ?_, fun t nt => ?_⟩
    · exact ⟨by omega, by omega, by omega, by omega, by omega⟩
    · rw [rgV_eq]
      exact q _ p _ F' _ hk2 (h'.newOw nt ⟨t, _, [], rfl, upd_same, (RepAll.ofInts (rangeL 0 n)).zero, rfl⟩))
/-- range(a, b, -1) -/
def downL (lo hi : Int) : List Int := (List.range (lo - hi).toNat).map fun i : Nat => lo - (i : Nat)
theorem yields_down {C : Ck} {lo hi : Int} : Yields C (it eI) (Itc lo (-1) (lo - hi).toNat) (downL lo hi) [] [] := ⟨rfl, fun i F H σ2 σb e2 eb hl2 h2 => by
  refine ⟨fun y hy => ?_, fun hn => ?_⟩
  · unfold downL at hy
    rw [List.getElem?_map] at hy
    by_cases hi : i < (lo - hi).toNat
    · rw [List.getElem?_range hi] at hy
      simp at hy; subst hy
      refine ⟨hi, fun v H' hy' => ⟨F, ?_⟩⟩
      obtain ⟨e1, e2⟩ := hy'
      rw [e1, e2, show lo + (i : Int) * (-1) = lo - i by omega]
      exact h2.pushSh (.int _)
    · rw [List.getElem?_eq_none (by simpa using hi)] at hy; cases hy
  · unfold downL at hn
    rw [List.getElem?_eq_none_iff] at hn
    simp at hn
    show (lo - hi).toNat ≤ i
    omega⟩
theorem li_down {tg : Expr} {f1 : (Int → P1 → Option Ω) → Option Ω} {f2 : P1 → (Int → P2 → Option Ω) → Option Ω} {p u1 u2 : Pos} {j : Nat} (hg : Gl X "range") (hm : X.mg "range" = none) (h1 : LX X env a (it eI) e1 f1) (h2 : ∀ p1, LX X (e1 p1) b (it eI) (e2 p1) (f2 p1))
    (hs : starEach [a, b, .UnaryOp .USub (.Constant (.int 1) j u1) u2] X.env = (false, eval a X.env) :: starEach [b, .UnaryOp .USub (.Constant (.int 1) j u1) u2] X.env := by rfl) (hs2 : starEach [b, .UnaryOp .USub (.Constant (.int 1) j u1) u2] X.env = (false, eval b X.env) :: starEach [.UnaryOp .USub (.Constant (.int 1) j u1) u2] X.env := by rfl)
    (hs3 : starEach [.UnaryOp .USub (.Constant (.int 1) j u1) u2] X.env = (false, eval (.UnaryOp .USub (.Constant (.int 1) j u1) u2) X.env) :: starEach [] X.env := by rfl) (hpl : (backTo pos (starEach [b, .UnaryOp .USub (.Constant (.int 1) j u1) u2] X.env)).any (·.1) = false := by rfl) :
    LI X env tg (.Call (.Name "range" p) [a, b, .UnaryOp .USub (.Constant (.int 1) j u1) u2] [] pos) (it eI) (fun q : P1 × P2 => e2 q.1 q.2) (fun k => f1 fun x p1 => f2 p1 fun y p2 => ck (rgOk x y) (k (downL x y) (p1, p2))) :=
  fun C F H σs es σ k ω R hK hl hr hk q => tI.of X (pi_range3 hg hm (pa_cons (peC X) (pa_cons (peC X) (pa_cons (pe_un un_neg pe_int) pa_nil hs3) hs2) hs) hs hpl) (op2_run (lo_of h1) (fun p1 => lo_of (h2 p1)) (fun _ _ => trivial) (fun _ _ => trivial) hK hl hr hk
    fun x p1 y p2 v u F' H' fp fq hk' h' r1 r2 => by
      obtain ⟨hc, hk2⟩ := ck_some hk'
      obtain ⟨_, r1⟩ := r1
      obtain ⟨_, r2⟩ := r2
      cases r1; cases r2
      have hc := of_decide_eq_true (p := -(2 ^ 62) ≤ x ∧ x < 2 ^ 62 ∧ -(2 ^ 62) ≤ y ∧ y < 2 ^ 62) hc
      exact ⟨1, rfl, x, y, -1, (x - y).toNat, rfl, RgC.neg hc.1 hc.2.1 hc.2.2.1 hc.2.2.2, q (downL x y) (p1, p2) _ F' H' [] [] hk2 h' yields_down⟩)
end
end Z
namespace Z
open PySem PySem.Spec PyProof.Rows L2
section
variable {α Ω : Type}
/-- a walk that ends at the first one that .. -/
theorem forO_find (P : α → Bool) (f : α → Ω) {b : α → Unit → (Unit → Option Ω) → Option Ω} {k : Unit → Option Ω} : ∀ (xs : List α), (∀ x ∈ xs, ∀ kc, b x () kc = if P x = true then some (f x) else kc ()) → forO xs () b k = (xs.find? P).elim (k ()) (fun x => some (f x))
  | [], _ => rfl
  | x :: xs, h => by
    show b x () _ = _
    rw [h x (List.mem_cons_self ..), List.find?_cons]
    cases P x with
    | true => rfl
    | false => exact forO_find P f xs fun y m => h y (List.mem_cons_of_mem _ m)
end
end Z
namespace Z
theorem forO_mapL {α β S Ω : Type} (f : α → β) {b : β → S → (S → Option Ω) → Option Ω} {k : S → Option Ω} : ∀ (xs : List α) (s : S), forO (xs.map f) s b k = forO xs s (fun x => b (f x)) k
  | [], s => rfl
  | x :: xs, s => congrArg (b (f x) s) (funext fun s' => forO_mapL f xs s')
end Z

set_option Elab.async false
set_option linter.all false
set_option maxRecDepth 100000
namespace Z
open PySem PySem.Spec PyProof.Rows L2
theorem eLD {τ : Type} {E : Enc τ} {a : List τ} : (eL eD).enc (List.map E.enc a) = (eL E).enc a := by simp [eL, eD]
section
variable {X : Cx} {Ω : Type} {env : Env} {τ τ1 α : Type} {S : Stor τ} {S1 : Stor τ1} {E : Enc α} {pos : Pos} {a b : Expr} {P1 P2 : Type} {fa : (τ1 → P1 → Option Ω) → Option Ω} {e1 : P1 → Env} {g1 : τ1 → List α} {e2 : P1 → P2 → Env} {G1 : Env → Prop}
theorem RepAll.flat {K : Fg} {F : Hp} {vs : List V} {ds : List PyData} (h : RepAll K F vs ds) : ∀ n : Nat, RepAll K F (List.replicate n vs).flatten (List.replicate n ds).flatten
  | 0 => .nil
  | n + 1 => by
    rw [List.replicate_succ, List.replicate_succ, List.flatten_cons, List.flatten_cons]
    exact h.app (RepAll.flat h n)
/-- xs * n -/
theorem lx_rep {fb : P1 → (Int → P2 → Option Ω) → Option Ω} (hv1 : LVm S1 (it E) g1) (ha : LO X G1 env a S1 e1 fa) (hb : ∀ p1, LX X (e1 p1) b (it eI) (e2 p1) (fb p1)) (h1 : ∀ p1 p2, G1 (e2 p1 p2)) :
    LX X env (.BinOp a .Mult b pos) (ls (it E)) (fun p : P1 × P2 => e2 p.1 p.2) (fun k => fa fun x p1 => fb p1 fun n p2 => ck (decide (-(2 ^ 62) ≤ n ∧ n ≤ 16777216 ∧ (g1 x).length * n.toNat ≤ SZ)) (k ((List.replicate n.toNat (g1 x)).flatten) (p1, p2))) :=
  fun C F H σs es σ k ω Q hK hl h hk q => tE.of X (pe_op op_rep (peC X) (peC X)) (op2_run ha (fun p1 => lo_of (hb p1)) h1 (fun _ _ => trivial) hK hl h hk fun x p1 n p2 v u F' H' fp fq hk' h' r1 r2 => by
    obtain ⟨hc, hk'⟩ := ck_some hk'
    obtain ⟨_, r2⟩ := r2
    cases r2
    obtain ⟨p, vs, fps, rfl, l1, ra⟩ := hv1.view h'.sF r1
    have hc' := of_decide_eq_true hc
    have n1 := ra.length
    refine ⟨p, n, vs, rfl, rfl, l1, Int.le_trans (by decide) hc'.1, Int.lt_of_le_of_lt hc'.2.1 (by decide), by rw [SZ_eq, n1]; exact hc'.2.2, fun t nt => ?_⟩
    refine q _ (p1, p2) (.ref t) F' _ hk' (h'.newOw nt ⟨t, _, [], rfl, upd_same, ?_, rfl⟩)
    have := ra.zero.2.flat n.toNat
    have e : (List.replicate n.toNat ((g1 x).map E.enc)).flatten = ((List.replicate n.toNat (g1 x)).flatten).map E.enc := by
      rw [List.map_flatten, List.map_replicate]
    rw [e] at this
    exact this.zero)
/-- [] of own things -/
theorem lx_nilS {Sa : Stor α} : LX X env (.List [] pos) (ls Sa) (fun _ : Unit => env) (fun (k : List α → Unit → Option Ω) => k [] ()) :=
  fun C F H σs es σ k ω Q hK hl hr hk q => tE.of X (pe_lst (paC X)) (la_nil C F H σs es σ _ ω _ hK hl hr hk fun a p vs F' H' hk' hlv h' => by
    match vs, hlv with
    | [], _ =>
      refine ⟨by decide, fun t nt => ?_⟩
      exact q [] () (.ref t) F' _ hk' (h'.newOw nt ⟨t, [], [], rfl, upd_same, .nil, rfl⟩))
end
/-! ### cuts: nothing changed, one way on -/
section
variable {X : Cx} {Ω : Type} {env : Env} {τ : Type} {S : Stor τ} {e : Expr} {P : Type} {e' : P → Env}
theorem lx_nc {f : (τ → P → Option Ω) → Option Ω} (h : LX X env e S e' f) (hs : ∀ p, e' p = env) : LX X env e S (fun _ : Unit => env) (fun (k : τ → Unit → Option Ω) => f fun a _ => k a ()) :=
  fun C F H σs es σ k ω Q hK hl hr hk q => h C F H σs es σ _ ω Q hK hl hr hk fun a p v F' H' hka h' => q a () v F' H' hka (by rw [hs p] at h'; exact h')
/-- .. and one way on -/
theorem lx_cut {f : (τ → P → Option τ) → Option τ} (h : LX (Ω := τ) X env e S e' f) (hs : ∀ p, e' p = env) : LX X env e S (fun _ : Unit => env) (fun (k : τ → Unit → Option Ω) => (f fun a _ => some a).bind fun a => k a ()) :=
  fun C F H σs es σ k ω Q hK hl hr hk q => by
    obtain ⟨r, hf, hk⟩ := bind_some hk
    exact h C F H σs es σ (fun a _ => some a) r Q hK hl hr hf fun a p v F' H' hka h' => q a () v F' H' (by cases hka; exact hk) (by rw [hs p] at h'; exact h')
theorem lt_cut {f : (Bool → P → Option Bool) → Option Bool} (h : LT (Ω := Bool) X env e e' f) (hs : ∀ p, e' p = env) : LT X env e (fun _ : Unit => env) (fun (k : Bool → Unit → Option Ω) => (f fun b _ => some b).bind fun b => k b ()) :=
  fun C F H σs es σ k ω Q hK hl hr hk q => by
    obtain ⟨r, hf, hk⟩ := bind_some hk
    exact h C F H σs es σ (fun a _ => some a) r Q hK hl hr hf fun a p F' H' hka h' => q a () F' H' (by cases hka; exact hk) (by rw [hs p] at h'; exact h')
end
section
variable {X : Cx} {R I Ω J : Type} {SR : Stor R} {envR : I → Env} {kr : R → I → Option Ω} {bk ct : Lp Ω} {env : Env} {rest : List Stmt} {envJ : J → Env} {nm nm2 nm3 : Str} {pos : Pos} {a b c : Expr} {P : Type} {e' : P → Env}
/-- lb_par, whose slots are read off last (else the parts are walked blind) -/
theorem lb_parS {τ1 τ2 : Type} {S1 : Stor τ1} {S2 : Stor τ2} {sl : τ1 × τ2 × Unit → Env} {f : ((τ1 × τ2 × Unit) → P → Option Ω) → Option Ω} {fr : τ1 → τ2 → P → (J → Option Ω) → Option Ω} {px py pt : Pos} {kt k2 : Nat} {pt2 : Pos} (i j : Nat) (hN : X.N.Nodup) (hc : X.calm = true) (ha : LA X env [a, b] sl e' f) (hsl : ∀ p, sl p = [.st none τ1 S1 p.1, .st none τ2 S2 p.2.1])
    (hr : ∀ x y p, LB X SR envR kr bk ct (((e' p).set i (.st none τ1 S1 x)).set j (.st none τ2 S2 y)) rest envJ (fr x y p))
    (hi : X.N[i]? = some nm := by rfl) (hj : X.N[j]? = some nm2 := by rfl) (hij : i ≠ j := by decide) (hx : X.env.scope.names.lookup nm = some .local := by rfl) (hy : X.env.scope.names.lookup nm2 = some .local := by rfl)
    (hli : ∀ p, i < (e' p).length := by exact (fun _ => Nat.lt_of_sub_eq_succ rfl)) (hlj : ∀ p, j < (e' p).length := by exact (fun _ => Nat.lt_of_sub_eq_succ rfl))
    (hw : swappedStores [.Tuple [.Name nm px, .Name nm2 py] kt pt] (.Tuple [a, b] k2 pt2) X.env = pure (some [nm, nm2]) := by rfl)
    (hs : swapsWithSole [.Tuple [.Name nm px, .Name nm2 py] kt pt] (.Tuple [a, b] k2 pt2) pos.line X.env = pure false := by rfl) :
    LB X SR envR kr bk ct env (.Assign [.Tuple [.Name nm px, .Name nm2 py] kt pt] (.Tuple [a, b] k2 pt2) pos :: rest) envJ (fun kn => f fun r p => fr r.1 r.2.1 p kn) := by
  obtain rfl : sl = _ := funext hsl
  exact lb_par i j hN hc ha hr hi hj hij hx hy hli hlj hw hs
theorem lb_par3S {τ1 τ2 τ3 : Type} {S1 : Stor τ1} {S2 : Stor τ2} {S3 : Stor τ3} {sl : τ1 × τ2 × τ3 × Unit → Env} {f : ((τ1 × τ2 × τ3 × Unit) → P → Option Ω) → Option Ω} {fr : τ1 → τ2 → τ3 → P → (J → Option Ω) → Option Ω} {px py pz pt : Pos} {kt k2 : Nat} {pt2 : Pos} (i j l : Nat) (hN : X.N.Nodup) (hc : X.calm = true) (ha : LA X env [a, b, c] sl e' f) (hsl : ∀ p, sl p = [.st none τ1 S1 p.1, .st none τ2 S2 p.2.1, .st none τ3 S3 p.2.2.1])
    (hr : ∀ x y z p, LB X SR envR kr bk ct ((((e' p).set i (.st none τ1 S1 x)).set j (.st none τ2 S2 y)).set l (.st none τ3 S3 z)) rest envJ (fr x y z p))
    (hi : X.N[i]? = some nm := by rfl) (hj : X.N[j]? = some nm2 := by rfl) (hl3 : X.N[l]? = some nm3 := by rfl) (hij : i ≠ j := by decide) (hil : i ≠ l := by decide) (hjl : j ≠ l := by decide) (hx : X.env.scope.names.lookup nm = some .local := by rfl) (hy : X.env.scope.names.lookup nm2 = some .local := by rfl) (hz : X.env.scope.names.lookup nm3 = some .local := by rfl)
    (hli : ∀ p, i < (e' p).length := by exact (fun _ => Nat.lt_of_sub_eq_succ rfl)) (hlj : ∀ p, j < (e' p).length := by exact (fun _ => Nat.lt_of_sub_eq_succ rfl)) (hll : ∀ p, l < (e' p).length := by exact (fun _ => Nat.lt_of_sub_eq_succ rfl))
    (hw : swappedStores [.Tuple [.Name nm px, .Name nm2 py, .Name nm3 pz] kt pt] (.Tuple [a, b, c] k2 pt2) X.env = pure (some [nm, nm2, nm3]) := by rfl)
    (hs : swapsWithSole [.Tuple [.Name nm px, .Name nm2 py, .Name nm3 pz] kt pt] (.Tuple [a, b, c] k2 pt2) pos.line X.env = pure false := by rfl) :
    LB X SR envR kr bk ct env (.Assign [.Tuple [.Name nm px, .Name nm2 py, .Name nm3 pz] kt pt] (.Tuple [a, b, c] k2 pt2) pos :: rest) envJ (fun kn => f fun r p => fr r.1 r.2.1 r.2.2.1 p kn) := by
  obtain rfl : sl = _ := funext hsl
  exact lb_par3 i j l hN hc ha hr hi hj hl3 hij hil hjl hx hy hz hli hlj hll hw hs
end
/-! ### items of a list of own lists -/
theorem ixN_lt' {n i : Nat} {j : Int} (h : ixN n j = some i) : i < n := by
  unfold ixN at h
  split at h
  · split at h
    · cases h; omega
    · cases h
  · split at h
    · cases h; omega
    · cases h
theorem RelAll.split {α : Type} {R : List Addr → V → α → Prop} : ∀ {fp : List Addr} {vs : List V} {xs : List α}, RelAll R fp vs xs → ∀ {n : Nat} {x : α}, xs[n]? = some x →
    ∃ fp1 fq fp2 v, fp = fp1 ++ (fq ++ fp2) ∧ vs[n]? = some v ∧ R fq v x ∧ ∀ (R' : List Addr → V → α → Prop) (fq' : List Addr) (x' : α), (∀ fr w y, (∀ a ∈ fr, a ∈ fp1 ∨ a ∈ fp2) → R fr w y → R' fr w y) → R' fq' v x' → RelAll R' (fp1 ++ (fq' ++ fp2)) vs (xs.set n x')
  | _, _, _, .nil, n, x, e => by simp at e
  | _, _, _, .cons (fp := fq) (fps := fps) h r, 0, x, e => by
    simp at e; subst e
    refine ⟨[], fq, fps, _, rfl, rfl, h, fun R' fq' x' f q => ?_⟩
    have := RelAll.cons q (RelAll.imp (R' := R') (fun fr w y s z => f fr w y (fun a m => .inr (s a m)) z) r)
    simpa using this
  | _, _, _, .cons (fp := fq) (fps := fps) h r, n + 1, x, e => by
    obtain ⟨fp1, fr, fp2, u, rfl, e2, hr, k⟩ := RelAll.split r (n := n) (by simpa using e)
    refine ⟨fq ++ fp1, fr, fp2, u, by simp [List.append_assoc], by simpa using e2, hr, fun R' fq' x' f q => ?_⟩
    have := RelAll.cons (f _ _ _ (fun a m => .inl (List.mem_append_left _ m)) h) (k R' fq' x' (fun fs w y s z => f fs w y (fun a m => (s a m).elim (fun m => .inl (List.mem_append_right _ m)) .inr) z) q)
    simpa [List.append_assoc] using this
/-- a list whose object and items are known: while it is written to -/
def pinL {α : Type} (S : Stor α) (q : Addr) (vs : List V) : Stor (List α) where
  rel := fun K F H fp v xs => ∃ fps, v = .ref q ∧ H q = some (.lst vs) ∧ RelAll (S.rel K F H) fps vs xs ∧ fp = q :: fps
  monoF := fun s h => by
    obtain ⟨fps, rfl, hp, r, rfl⟩ := h
    exact ⟨fps, rfl, hp, r.imp fun _ _ _ _ q => S.monoF s q, rfl⟩
  frame := fun f h => by
    obtain ⟨fps, rfl, hp, r, rfl⟩ := h
    exact ⟨fps, rfl, by rw [f _ List.mem_cons_self]; exact hp, r.imp fun fq _ _ s q => S.frame (fun a m => f a (List.mem_cons_of_mem _ (s a m))) q, rfl⟩
section
variable {X : Cx} {R I Ω : Type} {SR : Stor R} {envR : I → Env} {kr : R → I → Option Ω} {bk ct : Lp Ω} {env : Env} {nm : Str} {pos : Pos} {e ie : Expr} {rest : List Stmt} {P P1 P2 α : Type} {E : Enc α} {J : Type} {envJ : J → Env}
theorem ER.pin {C : Ck} {F H : Hp} {σ : List (Option V)} {env : Env} {w : Option V} {Sa : Stor α} {xs : List α} {i : Nat} {q1 : Addr} (h : ER C F H σ env) (e : env[i]? = some (.st w (List α) (ls Sa) xs)) (hv : σ[i]? = some (some (.ref q1))) :
    ∃ vs, ER C F H σ (env.set i (.st w (List α) (pinL Sa q1 vs) xs)) := by
  obtain ⟨v, fp, e1, r, nd, ow, fin⟩ := h.mut e
  rw [hv] at e1; cases e1
  obtain ⟨q, vs, fps, e2, hq, ra, rfl⟩ := r
  cases e2
  exact ⟨vs, fin (List α) (pinL Sa q1 vs) xs H (q1 :: fps) (fun _ _ _ => rfl) (fun _ m => m) ⟨fps, rfl, hq, ra, rfl⟩ nd fun a m => ⟨(ow a m).2.2, .inl m⟩⟩
/-- x[i].append(e), x a list of own lists -/
theorem lb_appIx {fi : (Int → P1 → Option Ω) → Option Ω} {f : P1 → (α → P2 → Option Ω) → Option Ω} {fr : Int → P1 → α → P2 → List (List α) → (J → Option Ω) → Option Ω} {e1 : P1 → Env} {e2 : Addr → List V → P1 → P2 → Env} {w : Option V} {xs : List (List α)} {ap cp np sp : Pos} (i : Nat) (h0 : env[i]? = some (.st w (List (List α)) (ls (ls (it E))) xs))
    (hi : LX X env ie (it eI) e1 fi) (h1 : ∀ p, (e1 p)[i]? = some (.st w (List (List α)) (ls (ls (it E))) xs)) (he : ∀ q vs p, LX X ((e1 p).set i (.st w (List (List α)) (pinL (ls (it E)) q vs) xs)) e (it E) (e2 q vs p) (f p)) (h2 : ∀ q vs p p2, (e2 q vs p p2)[i]? = some (.st w (List (List α)) (pinL (ls (it E)) q vs) xs))
    (hr : ∀ q vs j p y p2 zs, LB X SR envR kr bk ct ((e2 q vs p p2).set i (.st w (List (List α)) (ls (ls (it E))) zs)) rest envJ (fr j p y p2 zs))
    (hN : X.N[i]? = some nm := by rfl) (hv : Vis X.env.scope nm := by first | exact Or.inl rfl | exact Or.inr (Or.inl rfl) | exact Or.inr (Or.inr rfl))
    (hd : (nm == ("__debug__" : Str)) = false := by decide) (hcd : (nm == ("__classdict__" : Str)) = false := by decide) (hp : PlainIx ie := by exact fun _ _ => rfl)
    (hbase : attributeBase (.Subscript (.Name nm np) ie sp) "append" X.env (eval (.Subscript (.Name nm np) ie sp) X.env) = eval (.Subscript (.Name nm np) ie sp) X.env := by rfl)
    (hfew : ((backTo cp (starEach [e] X.env)).all (fun x => !x.1) && (backToKw cp (keywordEach [] X.env)).all (fun x => x.1.isSome) && decide ([e].length + ([] : List Keyword).length + (if ([] : List Keyword).isEmpty then 0 else 1) < 30)) = true := by rfl)
    (hline : (ap.endLine == cp.line) = true := by rfl) (hse : starEach [e] X.env = (false, eval e X.env) :: starEach [] X.env := by rfl) (hplain : (backTo cp (starEach [] X.env)).any (·.1) = false := by rfl)
    (hsw : swapsWith (.Call (.Attribute (.Subscript (.Name nm np) ie sp) "append" ap) [e] [] cp) none pos.line X.env = pure false := by rfl) :
    LB X SR envR kr bk ct env (.Expr (.Call (.Attribute (.Subscript (.Name nm np) ie sp) "append" ap) [e] [] cp) pos :: rest) envJ (fun kn => fi fun j p => (ixN xs.length j).bind fun n => f p fun y p2 => ck (decide ((xs.getD n []).length < SZ)) (fr j p y p2 (xs.set n (xs.getD n [] ++ [y])) kn)) :=
  fun C F H σs es σ kn ω D hK hl h hk qn qb qc qr => tSs.of X (pss_cons (ps_expr (pe_bm PySem.F.plainAttrs_list PySem.F.slot_list_append PySem.F.type_list_append mt_append (pe_ix ix_list (pe_var hN hv hd hcd) (peC X) hp) (pa_cons (peC X) pa_nil hse) hbase hfew hline hse hplain) hsw) (pssC X)) (by
    obtain ⟨l, fp, e1', r⟩ := h.lookF hl h0
    refine ⟨l, e1', hi C F H σs es σ _ ω _ hK hl h hk fun j p u F' H' hk' h' => ?_⟩
    have hu : u = .int j := by
      obtain ⟨v', fp, e1, r⟩ := h'.look (i := 0) rfl
      simp at e1; subst e1
      obtain ⟨_, r⟩ := r
      cases r; rfl
    subst hu
    have h3 : ER C F' H' (σs ++ σ) (es ++ e1 p) := h'.pop
    obtain ⟨n, hn, hk'⟩ := bind_some hk'
    obtain ⟨l', fp', e3, r1⟩ := h3.lookF hl (h1 p)
    rw [e1'] at e3; cases e3
    obtain ⟨q1, vs1, fps, rfl, _, _, _⟩ := r1
    obtain ⟨vs, h3p⟩ := h3.pin (i := es.length + i) (q1 := q1) (by rw [at_app _ rfl]; exact h1 p) (by rw [at_app _ hl]; exact e1')
    rw [List.set_append_right _ _ (Nat.le_add_right _ _), Nat.add_sub_cancel_left] at h3p
    have hil : i < (e1 p).length := lt_of_get (h1 p)
    obtain ⟨l5, fp5, e5, r5⟩ := h3p.lookF (i := i) hl (by rw [List.getElem?_set_self hil])
    rw [e1'] at e5; cases e5
    obtain ⟨fps5, _, hq, ra, _⟩ := r5
    have hlen := ra.length
    have hnl : n < xs.length := ixN_lt' hn
    have hx : xs[n]? = some (xs.getD n []) := by rw [List.getElem?_eq_getElem hnl, List.getD_eq_getElem?_getD, List.getElem?_eq_getElem hnl]; rfl
    obtain ⟨fp1, fq, fp2, v, efp, hvn, rv, _⟩ := ra.split hx
    obtain ⟨q2, ws, fps2, rfl, hq2, rw2, rfl⟩ := rv
    refine ⟨q1, vs, j, .ref q2, rfl, rfl, SqL.of hq, by unfold atI; rw [hlen, hn]; exact hvn, .inl ⟨rfl, ws, SqL.of hq2⟩, ?_⟩
    refine he q1 vs p C F' H' σs es σ _ ω _ hK hl h3p hk' fun y p2 v F2 H2 hk2 h4 => ?_
    obtain ⟨hc, hk2⟩ := ck_some hk2
    have hc' := of_decide_eq_true hc
    have ry : Rep C.K F2 v (E.enc y) := by
      obtain ⟨v', fp, e1, r⟩ := h4.look (i := 0) rfl
      simp at e1; subst e1
      exact r.2
    obtain ⟨l2, fp3, e4, r3, nd, ow, fin⟩ := h4.pop.mut (i := es.length + i) (by rw [at_app _ rfl]; exact h2 q1 vs p p2)
    rw [at_app _ hl, e1'] at e4
    cases e4
    obtain ⟨fps3, _, hq3, ra3, rfl⟩ := r3
    obtain ⟨gp1, gq, gp2, v3, egp, hvn3, rv3, put⟩ := ra3.split hx
    rw [hvn] at hvn3; cases hvn3
    obtain ⟨q4, ws4, fps4, e6, hq4, rw4, rfl⟩ := rv3
    cases e6
    subst egp
    obtain ⟨rfl, rp4⟩ := rw4.zero
    have hlen4 : ws4.length = (xs.getD n []).length := by have := rp4.length; simpa using this
    refine ⟨q2, ws4, v, rfl, rfl, hq4, by rw [SZ_eq]; omega, ?_⟩
    have n1 : q1 ≠ q2 := fun z => by
      have := (List.nodup_cons.mp nd).1
      exact this (by rw [z]; simp)
    have nm1 : q2 ∉ gp1 ∧ q2 ∉ gp2 := by
      have := (List.nodup_cons.mp nd).2
      rw [List.nodup_append] at this
      obtain ⟨_, h2, h3⟩ := this
      exact ⟨fun m => h3 q2 m q2 (by simp) rfl, fun m => (List.nodup_cons.mp h2).1 (by simpa using m)⟩
    have fin' := fin (List (List α)) (ls (ls (it E))) (xs.set n (xs.getD n [] ++ [y])) (upd H2 q2 (.lst (ws4 ++ [v]))) (q1 :: (gp1 ++ ([q2] ++ gp2))) (fun a na _ => upd_ne fun z => na (by rw [z]; simp)) (fun a m => ?_) ⟨q1, vs, _, rfl, by rw [upd_ne n1]; exact hq3, put _ [q2] _ (fun fr w y s z => Stor.frame _ (fun a m => upd_ne fun z => by
        rcases s a m with m | m
        · exact nm1.1 (z ▸ m)
        · exact nm1.2 (z ▸ m)) z) ⟨q2, ws4 ++ [v], [], rfl, upd_same, ?_, rfl⟩, rfl⟩ nd (fun a m => ?_)
    · rw [List.set_append_right _ _ (Nat.le_add_right _ _), Nat.add_sub_cancel_left] at fin'
      exact hr q1 vs j p y p2 _ C F2 _ σs es σ kn ω D hK hl fin' hk2 qn qb qc qr
    · by_cases z : a = q2
      · subst z; rw [upd_same]; exact fun z => by cases z
      · rw [upd_ne z]; exact m
    · have := rp4.app (.cons ry .nil)
      have e : (xs.getD n []).map E.enc ++ [E.enc y] = (xs.getD n [] ++ [y]).map E.enc := by simp
      rw [e] at this
      exact this.zero
    · refine ⟨?_, .inl m⟩
      by_cases z : a = q2
      · subst z; rw [upd_same]; exact fun z => by cases z
      · rw [upd_ne z]; exact (ow a m).2.2)
end
end Z

set_option Elab.async false
set_option linter.all false
set_option maxRecDepth 100000
namespace Z
open PySem PySem.Spec PyProof.Rows L2
theorem eLLD {τ : Type} {E : Enc τ} {a : List (List τ)} : (eL (eL eD)).enc (List.map (List.map E.enc) a) = (eL (eL E)).enc a := by simp [eL, eD]
/-! ### comprehensions of two fors, nothing changed -/
theorem wipe_same {σ σ' : List (Option V)} {vs : List Nat} (hl : σ'.length = σ.length) (h : ∀ j : Nat, j ∉ vs → σ'[j]? = σ[j]?) : wipe σ' vs = wipe σ vs := by
  apply List.ext_getElem?
  intro j
  rw [wipe_get, wipe_get]
  by_cases m : j ∈ vs
  · rw [if_pos m, if_pos m, hl]
  · rw [if_neg m, if_neg m, h j m]
theorem wipe_at {σ σ' : List (Option V)} {vs : List Nat} (h : wipe σ' vs = wipe σ vs) {j : Nat} (m : j ∉ vs) : σ'[j]? = σ[j]? := by
  have := congrArg (fun l => l[j]?) h
  simpa only [wipe_get, if_neg m] using this
theorem wipe_len {σ σ' : List (Option V)} {vs : List Nat} (h : wipe σ' vs = wipe σ vs) : σ'.length = σ.length := by
  have := congrArg List.length h
  simpa only [wipe_length] using this
theorem wipe_idem {σ : List (Option V)} {vs : List Nat} : wipe (wipe σ vs) vs = wipe σ vs := wipe_same (wipe_length _ _) fun j m => by rw [wipe_get, if_neg m]
theorem ER.wl {C : Ck} {F H : Hp} {σp σ σ' : List (Option V)} {ep env : Env} {vs : List Nat} (h : ER C F H (σp ++ σ) (ep ++ env)) (hl : σp.length = ep.length) (hu : ∀ (i : Nat) (s : Slot), i ∈ vs → env[i]? = some s → s = Slot.un) (hw : wipe σ' vs = wipe σ vs) : ER C F H (σp ++ σ') (ep ++ env) :=
  h.like hl (wipe_len hw) fun j s e => by
    by_cases m : j ∈ vs
    · exact .inl (hu j s m e)
    · exact .inr (wipe_at hw m)
section
variable {X : Cx} {Ω : Type} {env env0 : Env} {pos : Pos} {elt tg iter tg1 iter1 : Expr} {ifs1 : List Expr} {P P1 P2 P3 : Type} {α β δ : Type} {Sa : Stor α} {Sb : Stor β} {Sd : Stor δ} {e' : P → Env} {scope : Scope} {own : List (Str × Nat)} {ix ix1 : List Nat}
  {envX : α → Env} {e1 : α → P1 → Env} {envY : α → P1 → β → Env} {eT : α → P1 → β → P2 → Env} {eE : α → P1 → β → P2 → P3 → Env}
  {f : (List α → P → Option Ω) → Option Ω} {f1 : α → (List β → P1 → Option Ω) → Option Ω} {ft : α → P1 → β → (Bool → P2 → Option Ω) → Option Ω} {fe : α → P1 → β → P2 → (δ → P3 → Option Ω) → Option Ω}
def lcIn (ft : α → P1 → β → (Bool → P2 → Option Ω) → Option Ω) (fe : α → P1 → β → P2 → (δ → P3 → Option Ω) → Option Ω) (x : α) (p1 : P1) (y : β) (acc : List δ) (kc : List δ → Option Ω) : Option Ω :=
  ft x p1 y fun b p2 => if b = true then fe x p1 y p2 fun z _ => ck (decide (acc.length < SZ)) (kc (acc ++ [z])) else kc acc
def lcOut (f1 : α → (List β → P1 → Option Ω) → Option Ω) (ft : α → P1 → β → (Bool → P2 → Option Ω) → Option Ω) (fe : α → P1 → β → P2 → (δ → P3 → Option Ω) → Option Ω) (x : α) (acc : List δ) (kc : List δ → Option Ω) : Option Ω :=
  f1 x fun ys p1 => forO ys acc (lcIn ft fe x p1) kc
theorem lc2_run (hi : LI X env tg iter Sa e' f) (h0 : ∀ p, Sub (e' p) env0) (hu : ∀ (i : Nat) (s : Slot), i ∈ own.map (·.2) → env0[i]? = some s → s = Slot.un)
    (hsub : ∀ i ∈ ix, i ∈ own.map (·.2)) (hsub1 : ∀ i ∈ ix1, i ∈ own.map (·.2))
    (hg : ∀ Y, Blk X scope Y → LG Y ix env0 tg Sa envX) (hi1 : ∀ Y, Blk X scope Y → ∀ x, LI Y (envX x) tg1 iter1 Sb (e1 x) (f1 x)) (hu1 : ∀ (x : α) (p : P1) (i : Nat) (s : Slot), i ∈ ix1 → (e1 x p)[i]? = some s → s = Slot.un)
    (hg1 : ∀ Y, Blk X scope Y → ∀ x p, LG Y ix1 (e1 x p) tg1 Sb (envY x p)) (ht : ∀ Y, Blk X scope Y → ∀ x p y, LTl Y (envY x p y) ifs1 (eT x p y) (ft x p y)) (he : ∀ Y, Blk X scope Y → ∀ x p y q, LX Y (eT x p y q) elt Sd (eE x p y q) (fe x p y q))
    (hn : ∀ x p y q r, Sub (eE x p y q r) (e1 x p)) (hf : ∀ x p y q, Sub (eT x p y q) (e1 x p)) (hb : ∀ x p, Sub (e1 x p) env0)
    {C : Ck} {F H : Hp} {σs : List (Option V)} {es : Env} {σ : List (Option V)} {k : List δ → Unit → Option Ω} {ω : Ω} {Q : VK} (hK : C.K = X.K) (hl : σs.length = es.length) (h : ER C F H (σs ++ σ) (es ++ env))
    (hk : (f fun xs _ => forO xs [] (lcOut f1 ft fe) fun acc => k acc ()) = some ω)
    (q : ∀ ys v F' H', k ys () = some ω → ER C F' H' (some v :: (σs ++ σ)) (.st none (List δ) (ls Sd) ys :: (es ++ env0)) → Q v H') :
    tLc2 (tI X tg iter) (fun v σ H Q => ∀ Y, Blk X scope Y → tG Y tg v σ H Q) (fun σ H Q => ∀ Y, Blk X scope Y → tTl Y [] σ H Q) (fun σ H R => ∀ Y, Blk X scope Y → tI Y tg1 iter1 σ H R) (fun v σ H Q => ∀ Y, Blk X scope Y → tG Y tg1 v σ H Q) (fun σ H Q => ∀ Y, Blk X scope Y → tTl Y ifs1 σ H Q) (fun σ H Q => ∀ Y, Blk X scope Y → tE Y elt σ H Q) (own.map (·.2)) ix1 σ H Q := by
  refine hi C F H σs es σ _ ω _ hK hl h hk fun xs p J F' H' σx ex hk' h' hy => ?_
  intro D nD
  have hnew : ER C F' (upd H' D (.lst [])) (some (.ref D) :: (σx ++ (σs ++ σ))) (.st none (List δ) (ls Sd) [] :: (ex ++ (es ++ e' p))) := h'.newOw nD ⟨D, [], [], rfl, upd_same, .nil, rfl⟩
  refine ⟨fun i m H2 => m = xs.length - i ∧ i ≤ xs.length ∧ ∃ acc F2, ER C F2 H2 (some (.ref D) :: (σx ++ (σs ++ σ))) (.st none (List δ) (ls Sd) acc :: (ex ++ (es ++ env0))) ∧ forO (xs.drop i) acc (lcOut f1 ft fe) (fun acc => k acc ()) = some ω,
    ⟨xs.length, by simp, Nat.zero_le _, [], F', ER.sub hnew (.keep (((h0 p).pre es).pre ex)), by simpa using hk'⟩, ?_⟩
  rintro i m H2 ⟨rfl, hi', acc, F2, h2, hk2⟩
  obtain ⟨y1, y2⟩ := hy.go i F2 H2 [some (.ref D)] (σs ++ σ) [.st none (List δ) (ls Sd) acc] (es ++ env0) rfl h2
  by_cases hlt : i < xs.length
  rotate_left
  · have e : i = xs.length := by omega
    subst e
    refine .inl ⟨y2 (by simp), q acc (.ref D) F2 H2 (by simpa [forO] using hk2) ?_⟩
    have h3 : ER C F2 H2 (σx ++ some (.ref D) :: (σs ++ σ)) (ex ++ .st none (List δ) (ls Sd) acc :: (es ++ env0)) := ER.unrot h2 hy.len
    exact h3.popN hy.len
  have ex1 : xs[i]? = some xs[i] := List.getElem?_eq_getElem hlt
  obtain ⟨g1, g2⟩ := y1 _ ex1
  have ed : xs.drop i = xs[i] :: xs.drop (i + 1) := List.drop_eq_getElem_cons hlt
  rw [ed] at hk2
  generalize xs[i] = x at ex1 g2 hk2
  refine .inr ⟨g1, fun H3 => ∃ acc F3, ER C F3 H3 (some (.ref D) :: (σx ++ (σs ++ σ))) (.st none (List δ) (ls Sd) acc :: (ex ++ (es ++ env0))) ∧ forO (xs.drop (i + 1)) acc (lcOut f1 ft fe) (fun acc => k acc ()) = some ω,
    fun H3 ⟨acc3, F3, h3, hk3⟩ => ⟨xs.length - (i + 1), by omega, rfl, hlt, acc3, F3, h3, hk3⟩, fun v H3 hv Y bY => ?_⟩
  have YK : C.K = Y.K := by obtain ⟨_, _, _, _, _, rfl⟩ := bY.is; exact hK
  obtain ⟨F3, h3⟩ := g2 v H3 hv
  have lenp : ((some (.ref D) : Option V) :: (σx ++ σs)).length = ((.st none (List δ) (ls Sd) acc : Slot) :: (ex ++ es)).length := by simp [hl, hy.len]
  have h3' : ER C F3 H3 ((some v :: some (.ref D) :: (σx ++ σs)) ++ wipe σ (own.map (·.2))) ((.st none α Sa x :: .st none (List δ) (ls Sd) acc :: (ex ++ es)) ++ env0) :=
    ER.wl (σ := σ) (vs := own.map (·.2)) (by simpa [List.append_assoc] using h3) (by simp [hl, hy.len]) hu wipe_idem
  refine hg Y bY C F3 H3 (some (.ref D) :: (σx ++ σs)) (.st none (List δ) (ls Sd) acc :: (ex ++ es)) (wipe σ (own.map (·.2))) v x _ YK lenp (by simpa [List.append_assoc] using h3') fun σ4 e4 h4 => ?_
  have hw4 : wipe σ4 (own.map (·.2)) = wipe σ (own.map (·.2)) := (wipe_same e4.1 fun j m => e4.2 j fun z => m (hsub j z)).trans wipe_idem
  refine ⟨hw4, fun Y bY => ?_⟩
  refine tTl.of Y pts_nil ?_
  unfold tYes
  refine Eq.mpr (if_pos rfl) ?_
  intro Y bY
  have YK : C.K = Y.K := by obtain ⟨_, _, _, _, _, rfl⟩ := bY.is; exact hK
  refine hi1 Y bY x C F3 H3 (some (.ref D) :: (σx ++ σs)) (.st none (List δ) (ls Sd) acc :: (ex ++ es)) σ4 _ ω _ YK lenp h4 hk2 fun ys p1 J1 F5 H5 σy ey hk5 h5 hy1 => ?_
  have lenq : ∀ a : List δ, (σy ++ (some (.ref D) :: (σx ++ σs)) : List (Option V)).length = (ey ++ ((.st none (List δ) (ls Sd) a : Slot) :: (ex ++ es))).length := fun a => by simp [hl, hy.len, hy1.len]
  refine ⟨fun j m H6 => m = ys.length - j ∧ j ≤ ys.length ∧ ∃ acc F6, ER C F6 H6 (σy ++ ((some (.ref D) :: (σx ++ σs)) ++ σ4)) (ey ++ ((.st none (List δ) (ls Sd) acc :: (ex ++ es)) ++ e1 x p1)) ∧ forO (ys.drop j) acc (lcIn ft fe x p1) (fun acc => forO (xs.drop (i + 1)) acc (lcOut f1 ft fe) fun acc => k acc ()) = some ω,
    ⟨ys.length, by simp, Nat.zero_le _, acc, F5, h5, by simpa using hk5⟩, ?_⟩
  rintro j m H6 ⟨rfl, hj', acc, F6, h6, hk6⟩
  obtain ⟨z1, z2⟩ := hy1.go j F6 H6 [] _ [] _ rfl h6
  by_cases hlt1 : j < ys.length
  rotate_left
  · have e : j = ys.length := by omega
    subst e
    refine .inl ⟨z2 (by simp), acc, F6, ?_, by simpa [forO] using hk6⟩
    have h7 : ER C F6 H6 ((some (.ref D) :: (σx ++ σs)) ++ σ4) ((.st none (List δ) (ls Sd) acc :: (ex ++ es)) ++ env0) := (h6.popN hy1.len).subF (hb x p1)
    have h8 := ER.wl (σ' := σ) h7 (by simp [hl, hy.len]) hu hw4.symm
    simpa [List.append_assoc] using h8
  have ey1 : ys[j]? = some ys[j] := List.getElem?_eq_getElem hlt1
  obtain ⟨w1, w2⟩ := z1 _ ey1
  have ed1 : ys.drop j = ys[j] :: ys.drop (j + 1) := List.drop_eq_getElem_cons hlt1
  rw [ed1] at hk6
  generalize ys[j] = y at ey1 w2 hk6
  refine .inr ⟨w1, fun H7 => ∃ acc F7, ER C F7 H7 (σy ++ ((some (.ref D) :: (σx ++ σs)) ++ σ4)) (ey ++ ((.st none (List δ) (ls Sd) acc :: (ex ++ es)) ++ e1 x p1)) ∧ forO (ys.drop (j + 1)) acc (lcIn ft fe x p1) (fun acc => forO (xs.drop (i + 1)) acc (lcOut f1 ft fe) fun acc => k acc ()) = some ω,
    fun H7 ⟨acc7, F7, h7, hk7⟩ => ⟨ys.length - (j + 1), by omega, rfl, hlt1, acc7, F7, h7, hk7⟩, fun v7 H7 hv7 Y bY => ?_⟩
  have YK : C.K = Y.K := by obtain ⟨_, _, _, _, _, rfl⟩ := bY.is; exact hK
  obtain ⟨F7, h7⟩ := w2 v7 H7 hv7
  have h7' : ER C F7 H7 ((some v7 :: (σy ++ (some (.ref D) :: (σx ++ σs)))) ++ wipe σ4 ix1) ((.st none β Sb y :: (ey ++ (.st none (List δ) (ls Sd) acc :: (ex ++ es)))) ++ e1 x p1) :=
    ER.wl (σ := σ4) (vs := ix1) (by simpa [List.append_assoc] using h7) (by have := lenq acc; simp at this ⊢; omega) (hu1 x p1) wipe_idem
  refine hg1 Y bY x p1 C F7 H7 (σy ++ (some (.ref D) :: (σx ++ σs))) (ey ++ (.st none (List δ) (ls Sd) acc :: (ex ++ es))) (wipe σ4 ix1) v7 y _ YK (lenq acc) (by simpa [List.append_assoc] using h7') fun σ5 e5 h8 => ?_
  have hw5 : wipe σ5 ix1 = wipe σ4 ix1 := (wipe_same e5.1 fun j m => e5.2 j m).trans wipe_idem
  refine ⟨hw5, fun Y bY => ?_⟩
  have YK : C.K = Y.K := by obtain ⟨_, _, _, _, _, rfl⟩ := bY.is; exact hK
  refine ht Y bY x p1 y C F7 H7 (σy ++ (some (.ref D) :: (σx ++ σs))) (ey ++ (.st none (List δ) (ls Sd) acc :: (ex ++ es))) σ5 _ ω _ YK (lenq acc) h8 hk6 fun bb p2 F8 H8 hk8 h9 => ?_
  cases bb with
  | false =>
    rw [if_neg Bool.false_ne_true] at hk8 ⊢
    have h10 := h9.subF (hf x p1 y p2)
    have h11 := ER.wl (σ' := σ4) h10 (lenq acc) (hu1 x p1) hw5.symm
    exact ⟨acc, F8, by simpa [List.append_assoc] using h11, hk8⟩
  | true =>
    rw [if_pos rfl] at hk8 ⊢
    intro Y bY
    have YK : C.K = Y.K := by obtain ⟨_, _, _, _, _, rfl⟩ := bY.is; exact hK
    refine he Y bY x p1 y p2 C F8 H8 (σy ++ (some (.ref D) :: (σx ++ σs))) (ey ++ (.st none (List δ) (ls Sd) acc :: (ex ++ es))) σ5 _ ω _ YK (lenq acc) h9 hk8 fun z p3 u F9 H9 hk9 h10 => ?_
    have h11 : ER C F9 H9 (some u :: (σy ++ (some (.ref D) :: (σx ++ (σs ++ σ5))))) (.st none δ Sd z :: (ey ++ (.st none (List δ) (ls Sd) acc :: (ex ++ (es ++ eE x p1 y p2 p3))))) := by simpa [List.append_assoc] using h10
    obtain ⟨hc, hk9⟩ := ck_some hk9
    obtain ⟨v', fp', v0, fq, a2, a3, r1, r2, nd, ow, fin⟩ := h11.absorb (i := ey.length) (w := none) (τ := List δ) (S := ls Sd) (x := acc) (by rw [List.getElem?_append_right (Nat.le_refl _)]; simp)
    rw [← hy1.len, List.getElem?_append_right (Nat.le_refl _), Nat.sub_self] at a2
    simp at a2 a3; subst a2; subst a3
    obtain ⟨q1, vs, fps, e4', hq, ra, rfl⟩ := r1
    cases e4'
    have hlen := ra.length
    have hc' := of_decide_eq_true hc
    refine ⟨vs, hq, by rw [SZ_eq]; omega, acc ++ [z], F9, ?_, hk9⟩
    have nm : D ∉ fps ++ fq := by
      have : (D :: (fps ++ fq)).Nodup := by simpa using nd
      exact (List.nodup_cons.mp this).1
    have fin' := fin (List δ) (ls Sd) (acc ++ [z]) (upd H9 D (.lst (vs ++ [u]))) (D :: (fps ++ fq)) (fun a na _ => upd_ne fun z => na (by rw [z]; simp)) (fun a m => by
      by_cases z : a = D
      · subst z; rw [upd_same]; exact fun z => by cases z
      · rw [upd_ne z]; exact m) ⟨D, vs ++ [u], fps ++ fq, rfl, upd_same, RelAll.imp (fun fr' v' x' s q => Sd.frame (fun a m => upd_ne fun z => nm (z ▸ s a m)) q) (ra.app r2), rfl⟩ (by simpa using nd) (fun a m => by
      refine ⟨?_, .inl (by simpa using m)⟩
      by_cases z : a = D
      · subst z; rw [upd_same]; exact fun z => by cases z
      · rw [upd_ne z]; exact (ow a (by simpa using m)).2.2)
    rw [List.set_append_right _ _ (Nat.le_refl _), Nat.sub_self, List.set_cons_zero] at fin'
    have h12 : ER C F9 (upd H9 D (.lst (vs ++ [u]))) ((σy ++ (some (.ref D) :: (σx ++ σs))) ++ σ5) ((ey ++ (.st none (List δ) (ls Sd) (acc ++ [z]) :: (ex ++ es))) ++ eE x p1 y p2 p3) := by simpa [List.append_assoc] using fin'
    have h13 := h12.subF (hn x p1 y p2 p3)
    have h14 := ER.wl (σ' := σ4) h13 (lenq _) (hu1 x p1) hw5.symm
    simpa [List.append_assoc] using h14
/-- [.. for .. in .. for .. in .. if ..] -/
theorem lx_lc2 (hc : X.calm = true) (hN : X.N.Nodup) (ok : BlkOk X.N X.env.scope scope own) (hi : LI X env tg iter Sa e' f) (env0 : Env) (h0 : ∀ p, Sub (e' p) env0) (hu : ∀ (i : Nat) (s : Slot), i ∈ own.map (·.2) → env0[i]? = some s → s = Slot.un)
    (hg : ∀ (s : Shared) (H : Hp) (C : Addr) (cl : List (Str × Addr)) (fp : List Addr), LG (X.blk s H scope (compEnvC scope cl C X.env) fp) ix env0 tg Sa envX) (hi1 : ∀ (s : Shared) (H : Hp) (C : Addr) (cl : List (Str × Addr)) (fp : List Addr) x, LI (X.blk s H scope (compEnvC scope cl C X.env) fp) (envX x) tg1 iter1 Sb (e1 x) (f1 x))
    (hg1 : ∀ (s : Shared) (H : Hp) (C : Addr) (cl : List (Str × Addr)) (fp : List Addr) x p, LG (X.blk s H scope (compEnvC scope cl C X.env) fp) ix1 (e1 x p) tg1 Sb (envY x p)) (ht : ∀ (s : Shared) (H : Hp) (C : Addr) (cl : List (Str × Addr)) (fp : List Addr) x p y, LTl (X.blk s H scope (compEnvC scope cl C X.env) fp) (envY x p y) ifs1 (eT x p y) (ft x p y)) (he : ∀ (s : Shared) (H : Hp) (C : Addr) (cl : List (Str × Addr)) (fp : List Addr) x p y q, LX (X.blk s H scope (compEnvC scope cl C X.env) fp) (eT x p y q) elt Sd (eE x p y q) (fe x p y q))
    (hu1 : ∀ (x : α) (p : P1) (i : Nat) (s : Slot), i ∈ ix1 → (e1 x p)[i]? = some s → s = Slot.un) (hn : ∀ x p y q r, Sub (eE x p y q r) (e1 x p)) (hf : ∀ x p y q, Sub (eT x p y q) (e1 x p)) (hb : ∀ x p, Sub (e1 x p) env0)
    (hsub : ∀ i ∈ ix, i ∈ own.map (·.2) := by decide) (hsub1 : ∀ i ∈ ix1, i ∈ own.map (·.2) := by decide)
    (hs : ∀ x, foldedSetIterable iter X.env x = pure x := by intro _; rfl) (hs1 : ∀ (e : PySem.Env) (x : Value), foldedSetIterable iter1 e x = pure x := by intro _ _; rfl) :
    LX X env (.ListComp elt [⟨tg, iter, [], 0⟩, ⟨tg1, iter1, ifs1, 0⟩] scope pos) (ls Sd) (fun _ : Unit => env0) (fun k => f fun xs _ => forO xs [] (lcOut f1 ft fe) fun acc => k acc ()) :=
  fun C F H σs es σ k ω Q hK hl h hk q => tE.of X (pe_lc2 hc hN (piC X) ok hsub1
      (fun s H C cl fp => ⟨fun pins s' σ H' v u Q I r h => h _ ⟨s, H, C, cl, fp, rfl⟩ pins s' u I r⟩) (fun s H C cl fp => ⟨fun pins s' σ H' Q I h => h _ ⟨s, H, C, cl, fp, rfl⟩ pins s' I⟩)
      (fun s H C cl fp => ⟨fun pins s' σ H' R I h => h _ ⟨s, H, C, cl, fp, rfl⟩ pins s' I⟩) (fun s H C cl fp => ⟨fun pins s' σ H' v u Q I r h => h _ ⟨s, H, C, cl, fp, rfl⟩ pins s' u I r⟩) (fun s H C cl fp => ⟨fun pins s' σ H' Q I h => h _ ⟨s, H, C, cl, fp, rfl⟩ pins s' I⟩) (fun s H C cl fp => ⟨fun pins s' σ H' Q I h => h _ ⟨s, H, C, cl, fp, rfl⟩ pins s' I⟩) hs hs1)
    (lc2_run hi h0 hu hsub hsub1 (fun Y bY => by obtain ⟨s, H, C, cl, fp, rfl⟩ := bY.is; exact hg s H C cl fp) (fun Y bY => by obtain ⟨s, H, C, cl, fp, rfl⟩ := bY.is; exact hi1 s H C cl fp) hu1 (fun Y bY => by obtain ⟨s, H, C, cl, fp, rfl⟩ := bY.is; exact hg1 s H C cl fp) (fun Y bY => by obtain ⟨s, H, C, cl, fp, rfl⟩ := bY.is; exact ht s H C cl fp) (fun Y bY => by obtain ⟨s, H, C, cl, fp, rfl⟩ := bY.is; exact he s H C cl fp) hn hf hb hK hl h hk (fun ys v F' H' hk' h' => q ys () v F' H' hk' h'))
end
section
variable {X : Cx} {Ω : Type} {env : Env} {nm : Str} {pos : Pos} {a b e tg : Expr} {xs tgs : List Expr} {P P1 P2 A : Type} {τ τ1 τ2 α β : Type} {S : Stor τ} {S1 : Stor τ1} {S2 : Stor τ2} {E : Enc τ} {E1 : Enc τ1} {E2 : Enc τ2} {ix : List Nat} {e' : P → Env} {e1 : P1 → Env} {e2 : P1 → P2 → Env}
/-- a walk over a tuple of one kind -/
theorem li_tup {g : τ → List α} {Ea : Enc α} {f : (τ → P → Option Ω) → Option Ω} (hv : TVw S (it Ea) g) (h : LX X env e S e' f) : LI X env tg e (it Ea) e' (fun k => f fun x p => k (g x) p) :=
  fun C F H σs es σ k ω R hK hl hr hk q => tI.of X (pi_tup (peC X)) (h C F H σs es σ _ ω _ hK hl hr hk fun x p v F' H' hk' h' => by
    obtain ⟨v', fp, e1, r⟩ := h'.look (i := 0) rfl
    simp at e1; subst e1
    obtain ⟨p0, vs, fps, rfl, hs, ra⟩ := hv.view h'.sF r
    refine ⟨p0, rfl, ⟨vs, by rw [← hK]; exact hs⟩, q (g x) p (Itt X.K p0) F' H' [some (.ref p0)] [.st none τ S x] hk' h' ⟨rfl, fun i F2 H2 σ2 σb e2 eb hl2 h2 => ?_⟩⟩
    obtain ⟨v', fp', e1, r'⟩ := h2.look (i := e2.length + 0) (by rw [at_app _ rfl]; rfl)
    rw [at_app _ hl2] at e1
    simp at e1; subst e1
    obtain ⟨p1, ws, fps', e3, hs', ra'⟩ := hv.view h2.sF r'
    cases e3
    rw [hK] at hs'
    have rp := ra'.zero.2
    refine ⟨fun y hy => ?_, fun hn => ?_⟩
    · obtain ⟨w, hw, rw'⟩ := rp.get (i := i) (d := Ea.enc y) (by rw [List.getElem?_map, hy]; rfl)
      refine ⟨⟨ws, w, hs', hw⟩, fun v H' hy' => ⟨F2, ?_⟩⟩
      obtain ⟨e4, hy'⟩ := hy'
      have := hy' ws hs'
      rw [hw] at this; cases this
      rw [e4]
      exact h2.pushSh rw'
    · refine ⟨ws, hs', ?_⟩
      have := rp.length
      simp at this
      have := List.getElem?_eq_none_iff.mp hn
      omega)
end
section
variable {X : Cx} {Ω : Type} {env : Env} {nm : Str} {pos : Pos} {a b c e : Expr} {xs rest : List Expr} {P P1 P2 P3 A : Type} {τ τ1 τ2 α β : Type} {S : Stor τ} {S1 : Stor τ1} {S2 : Stor τ2} {E : Enc τ} {E1 : Enc τ1} {E2 : Enc τ2}
/-- a if c else b, whose branches change things: what is left is told by j -/
theorem lx_ifJ {Pj : Type} (envJ : Pj → Env) {e2 : P1 → P2 → Env} {e3 : P1 → P3 → Env} {fc : (Bool → P1 → Option Ω) → Option Ω} {fa : P1 → (τ → P2 → Option Ω) → Option Ω} {fb : P1 → (τ → P3 → Option Ω) → Option Ω} (hc : LT X env c e1 fc) (ha : ∀ p1, LX X (e1 p1) a S (e2 p1) (fa p1)) (hb : ∀ p1, LX X (e1 p1) b S (e3 p1) (fb p1))
    (ja : P1 → P2 → Pj) (jb : P1 → P3 → Pj) (hs : ∀ p1 p2, Sub (e2 p1 p2) (envJ (ja p1 p2))) (hs3 : ∀ p1 p3, Sub (e3 p1 p3) (envJ (jb p1 p3))) :
    LX X env (.IfExp c a b pos) S envJ (fun k => fc fun x p1 => if x = true then fa p1 fun y p2 => k y (ja p1 p2) else fb p1 fun y p3 => k y (jb p1 p3)) :=
  fun C F H σs es σ k ω Q hK hl hr hk q => tE.of X (pe_ifExp (ptC X) (peC X) (peC X)) (hc C F H σs es σ _ ω _ hK hl hr hk fun x p1 F' H' hk' h' => by
    cases x with
    | true => rw [if_pos rfl] at hk' ⊢; exact ha p1 C F' H' σs es σ _ ω Q hK hl h' hk' fun y p2 u F2 H2 hk2 h2 => q y (ja p1 p2) u F2 H2 hk2 (ER.sub h2 (.keep ((hs p1 p2).pre es)))
    | false => rw [if_neg Bool.false_ne_true] at hk' ⊢; exact hb p1 C F' H' σs es σ _ ω Q hK hl h' hk' fun y p3 u F2 H2 hk2 h2 => q y (jb p1 p3) u F2 H2 hk2 (ER.sub h2 (.keep ((hs3 p1 p3).pre es))))
end
end Z


namespace My
open PySem PySem.Spec PyProof.Rows L2 Z
def topS (i : Nat) : Stmt := PySem.Challenge.pw_cutwright_k51_whole_uneven_verdicts.main.body.getD i (.Pass ⟨0, 0, 0, 0⟩)
abbrev s_cells_in : Stmt := topS 1
abbrev s_at : Stmt := topS 2
abbrev s_rest_of : Stmt := topS 3
abbrev s_verdict : Stmt := topS 4
abbrev s_reach_from : Stmt := topS 5
abbrev s_hangs : Stmt := topS 6
abbrev s__law_state : Stmt := topS 8
abbrev s__law_take : Stmt := topS 9
abbrev s__law_table : Stmt := topS 10
abbrev s__law_cells : Stmt := topS 11
abbrev s__law_lot : Stmt := topS 12
abbrev s_law : Stmt := topS 13
structure Fa (K : Fg) (mg : Str → Option Value) where
  f_cells_in : Addr
  fd_cells_in : FuncData
  F_cells_in : Fun K "cells_in" "cells_in" s_cells_in f_cells_in fd_cells_in
  g_cells_in : mg "cells_in" = some (.ref f_cells_in)
  b_cells_in : Binds K fd_cells_in ["table"] []
  f_at : Addr
  fd_at : FuncData
  F_at : Fun K "at" "at" s_at f_at fd_at
  g_at : mg "at" = some (.ref f_at)
  b_at : Binds K fd_at ["table", "cell"] []
  f_rest_of : Addr
  fd_rest_of : FuncData
  F_rest_of : Fun K "rest_of" "rest_of" s_rest_of f_rest_of fd_rest_of
  g_rest_of : mg "rest_of" = some (.ref f_rest_of)
  b_rest_of : Binds K fd_rest_of ["bounds", "depths"] []
  f_verdict : Addr
  fd_verdict : FuncData
  F_verdict : Fun K "verdict" "verdict" s_verdict f_verdict fd_verdict
  g_verdict : mg "verdict" = some (.ref f_verdict)
  b_verdict : Binds K fd_verdict ["bounds", "depths", "wish"] []
  f_reach_from : Addr
  fd_reach_from : FuncData
  F_reach_from : Fun K "reach_from" "reach_from" s_reach_from f_reach_from fd_reach_from
  g_reach_from : mg "reach_from" = some (.ref f_reach_from)
  b_reach_from : Binds K fd_reach_from ["rest", "start", "side"] []
  f_hangs : Addr
  fd_hangs : FuncData
  F_hangs : Fun K "hangs" "hangs" s_hangs f_hangs fd_hangs
  g_hangs : mg "hangs" = some (.ref f_hangs)
  b_hangs : Binds K fd_hangs ["bounds", "depths", "one", "other"] []
  f__law_state : Addr
  fd__law_state : FuncData
  F__law_state : Fun K "_law_state" "_law_state" s__law_state f__law_state fd__law_state
  g__law_state : mg "_law_state" = some (.ref f__law_state)
  b__law_state : Binds K fd__law_state ["script"] []
  f__law_take : Addr
  fd__law_take : FuncData
  F__law_take : Fun K "_law_take" "_law_take" s__law_take f__law_take fd__law_take
  g__law_take : mg "_law_take" = some (.ref f__law_take)
  b__law_take : Binds K fd__law_take ["state", "most"] []
  f__law_table : Addr
  fd__law_table : FuncData
  F__law_table : Fun K "_law_table" "_law_table" s__law_table f__law_table fd__law_table
  g__law_table : mg "_law_table" = some (.ref f__law_table)
  b__law_table : Binds K fd__law_table ["state"] []
  f__law_cells : Addr
  fd__law_cells : FuncData
  F__law_cells : Fun K "_law_cells" "_law_cells" s__law_cells f__law_cells fd__law_cells
  g__law_cells : mg "_law_cells" = some (.ref f__law_cells)
  b__law_cells : Binds K fd__law_cells ["table"] []
  f__law_lot : Addr
  fd__law_lot : FuncData
  F__law_lot : Fun K "_law_lot" "_law_lot" s__law_lot f__law_lot fd__law_lot
  g__law_lot : mg "_law_lot" = some (.ref f__law_lot)
  b__law_lot : Binds K fd__law_lot ["left", "start"] []
  f_law : Addr
  fd_law : FuncData
  F_law : Fun K "law" "law" s_law f_law fd_law
  g_law : mg "law" = some (.ref f_law)
  b_law : Binds K fd_law ["script"] []
  z_abs : mg "abs" = none
  z_enumerate : mg "enumerate" = none
  z_int : mg "int" = none
  z_len : mg "len" = none
  z_list : mg "list" = none
  z_max : mg "max" = none
  z_min : mg "min" = none
  z_range : mg "range" = none
  z_repr : mg "repr" = none
  z_sorted : mg "sorted" = none

def m_cells_in (a_table : (List (List (Int × Int)))) : Option (List (Int × Int)) :=
  let v_high_1 : Int := (List.length a_table : Int)
  let k21 := fun z22 : Int => (
    let v_wide_6 : Int := z22
    ck (rgOk 0 v_wide_6) (forO (rangeL 0 v_wide_6) [] (fun x9 (a16 : List (Int × Int)) kc18 => (
      ck (rgOk 0 v_high_1) (forO (rangeL 0 v_high_1) a16 (fun y11 (a17 : List (Int × Int)) kc19 => (
        ck (decide (List.length a17 < SZ)) (kc19 (a17 ++ [(x9, y11)])))) kc18))) fun (ys20 : List (Int × Int)) => (
      some ys20)))
  if (!List.isEmpty a_table) = true then ((atI a_table (0 : Int)).bind fun y5 =>
  k21 (List.length y5 : Int)) else (k21 (0 : Int))
def m_at (a_table : (List (List (Int × Int)))) (a_cell : (Int × Int)) : Option (Int × Int) :=
  (atI a_table a_cell.2).bind fun y24 =>
  (atI y24 a_cell.1).bind fun y26 =>
  some y26
def m_rest_of (a_bounds : (List (List (Int × Int)))) (a_depths : (List (List Int))) : Option (List (List (Int × Int))) :=
  let v_found_27 : (List (List (Int × Int))) := ([] : (List (List (Int × Int))))
  forO (enumL a_bounds) v_found_27 (fun x31 (t30 : (List (List (Int × Int)))) kc32 => (
    compO (enumL x31.2) () (fun x38 (t37 : Unit) kc57 => (
      (atI a_depths x31.1).bind fun y43 =>
      (atI y43 x38.1).bind fun y45 =>
      (atI a_depths x31.1).bind fun y50 =>
      (atI y50 x38.1).bind fun y52 =>
      kc57 (some ((max (0 : Int) (x38.2.1 - y45)), (max (0 : Int) (x38.2.2 - y52)))) ())) [] fun (ys55 : List (Int × Int)) (t56 : Unit) => (
      ck (decide (List.length t30 < SZ)) (
      let w58 : (List (List (Int × Int))) := t30 ++ [ys55]
      kc32 w58))))
    fun t59 : (List (List (Int × Int))) => (
    some t59)
def m_verdict (a_bounds : (List (List (Int × Int)))) (a_depths : (List (List Int))) (a_wish : (List (List (Int × Int)))) : Option PyData :=
  (m_rest_of a_bounds a_depths).bind fun r63 =>
  let v_rest_64 : (List (List (Int × Int))) := r63
  let v_open_cell_66 : (Option (Int × Int)) := none
  (m_cells_in a_bounds).bind fun r69 =>
  forO r69 v_open_cell_66 (fun x72 (t71 : (Option (Int × Int))) kc73 => (
    (m_at v_rest_64 x72).bind fun r77 =>
    let x78 : (Int × Int) := r77
    (m_at a_wish x72).bind fun r82 =>
    let x83 : (Int × Int) := r82
    (let k105 := fun z : Bool => (some z)
    if (decide (x78.2 < x83.1)) = true then k105 true else (k105 (decide (x83.2 < x78.1)))).bind fun z88 : Bool =>
    if z88 = true then (
      some (PyData.tuple [PyData.str ("spoilt" : Str), ((eT2 eI eI).enc x72)]))
    else (
      (let k103 := fun z : Bool => (some z)
      if (isNone ((eO (eT2 eI eI) (fun _ h => by cases h)).enc t71)) = true then ((let k104 := fun z : Bool => (some z)
      if (decide (x78.1 < x83.1)) = true then k104 true else (k104 (decide (x83.2 < x78.2)))).bind fun z96 : Bool =>
      k103 z96) else k103 false).bind fun z97 : Bool =>
      let k100 := fun j99 : (Option (Int × Int)) => (
        kc73 j99)
      if z97 = true then (
        let v_open_cell_101 : (Option (Int × Int)) := (some x72)
        k100 v_open_cell_101)
      else (
        k100 t71))))
    fun t106 : (Option (Int × Int)) => (
    (let k112 := fun z113 : PyData => (
      some z113)
    if (isNone ((eO (eT2 eI eI) (fun _ h => by cases h)).enc t106)) = true then (k112 (PyData.tuple [PyData.str ("sure" : Str)])) else (k112 (PyData.tuple [PyData.str ("open" : Str), ((eO (eT2 eI eI) (fun _ h => by cases h)).enc t106)]))).bind fun z111 : PyData =>
    some z111)
def m_reach_from (fu : Nat) (a_rest : (List (List (Int × Int)))) (a_start : (Int × Int)) (a_side : Int) : Option (List (Int × Int)) :=
  ((m_at a_rest a_start).bind fun r117 =>
  (atI ([r117.1, r117.2]) a_side).bind fun y119 =>
  let k214 := fun z215 : (List (Int × Int)) => (
    some z215)
  if (decide ((0 : Int) < y119)) = true then (k214 ([a_start])) else (k214 ([] : (List (Int × Int))))).bind fun z123 : (List (Int × Int)) =>
  let v_found_124 : (List (Int × Int)) := z123
  let v_here_126 : (List (Int × Int)) := v_found_124
  let k213 := fun t211 : ((List (Int × Int)) × (List (Int × Int))) => (
    (some (sortB (lt2 ltI ltI) t211.1)).bind fun y212 =>
    some y212)
  whileO fu (v_found_124, v_here_126) fun (t128 : ((List (Int × Int)) × (List (Int × Int)))) kc129 => (
    if (!List.isEmpty t128.2) = true then (
      let v_more_132 : (List (Int × Int)) := ([] : (List (Int × Int)))
      forO t128.2 v_more_132 (fun x136 (t135 : (List (Int × Int))) kc137 => (
        forO ([((x136.1 - (1 : Int)), x136.2), (x136.1, (x136.2 - (1 : Int))), (x136.1, (x136.2 + (1 : Int))), ((x136.1 + (1 : Int)), x136.2)]) t135 (fun x160 (t159 : (List (Int × Int))) kc161 => (
          ((let k199 := fun z : Bool => (some z)
          if decide ((0 : Int) ≤ x160.1) = true then ((atI a_rest (0 : Int)).bind fun y166 =>
          k199 (decide (x160.1 < (List.length y166 : Int)))) else k199 false).bind fun z168 : Bool =>
          let k198 := fun z : Bool => (some z)
          if z168 = true then ((let k200 := fun z : Bool => (some z)
          if decide ((0 : Int) ≤ x160.2) = true then (k200 (decide (x160.2 < (List.length a_rest : Int)))) else k200 false).bind fun z173 : Bool =>
          k198 z173) else k198 false).bind fun z174 : Bool =>
          let v_inside_175 : Bool := z174
          (let k195 := fun z : Bool => (some z)
          if v_inside_175 = true then (let k196 := fun z : Bool => (k195 z)
          if (!inB x160 t128.1) = true then (let k197 := fun z : Bool => (k196 z)
          if (!inB x160 t159) = true then ((m_at a_rest x160).bind fun r184 =>
          (atI ([r184.1, r184.2]) a_side).bind fun y186 =>
          k197 (decide ((0 : Int) < y186))) else k197 false) else k196 false) else k195 false).bind fun z188 : Bool =>
          let k191 := fun j190 : (List (Int × Int)) => (
            kc161 j190)
          if z188 = true then (
            ck (decide (List.length t159 < SZ)) (
            let w194 : (List (Int × Int)) := t159 ++ [x160]
            k191 w194))
          else (
            k191 t159)))
          fun t201 : (List (Int × Int)) => (
          kc137 t201)))
        fun t203 : (List (Int × Int)) => (
        let z209 : (List (Int × Int)) := t203
        ck (decide (List.length t128.1 + List.length z209 ≤ SZ)) (
        let w206 : (List (Int × Int)) := t128.1 ++ z209
        let v_here_207 : (List (Int × Int)) := t203
        kc129 (w206, v_here_207))))
    else k213 t128)
def m_hangs (fu : Nat) (a_bounds : (List (List (Int × Int)))) (a_depths : (List (List Int))) (a_one : (Int × Int)) (a_other : (Int × Int)) : Option PyData :=
  (m_rest_of a_bounds a_depths).bind fun r218 =>
  let v_rest_219 : (List (List (Int × Int))) := r218
  (m_reach_from fu v_rest_219 a_one (0 : Int)).bind fun r224 =>
  let v_sure_225 : (List (Int × Int)) := r224
  if (inB a_other v_sure_225) = true then (
    some (PyData.tuple [PyData.str ("surely" : Str), ((eL (eT2 eI eI)).enc v_sure_225)]))
  else (
    (m_reach_from fu v_rest_219 a_one (1 : Int)).bind fun r234 =>
    let v_perhaps_235 : (List (Int × Int)) := r234
    let k244 := fun z245 : PyData => (
      some z245)
    if (inB a_other v_perhaps_235) = true then (k244 (PyData.tuple [PyData.str ("perhaps" : Str), ((eL (eT2 eI eI)).enc v_sure_225), ((eL (eT2 eI eI)).enc v_perhaps_235)])) else (k244 (PyData.tuple [PyData.str ("never" : Str), ((eL (eT2 eI eI)).enc v_perhaps_235)])))
def m__law_state (a_script : List Int) : Option TSt :=
  compO (cutL a_script none (some (63 : Int))) () (fun x249 (t248 : Unit) kc254 => (
    kc254 (some (if x249 < 0 then -x249 else x249)) ())) [] fun (ys252 : List Int) (t253 : Unit) => (
    let v_cells_255 : (List Int) := ys252
    let k260 := fun j259 : (List Int) => (
      some ((0 : Int), j259))
    if (decide ((List.length v_cells_255 : Int) = (0 : Int))) = true then (
      let v_cells_262 : (List Int) := [(0 : Int)]
      k260 v_cells_262)
    else (
      k260 v_cells_255))
def m__law_take (t0 : TSt) (a_most : Int) : Option (Int × TSt) :=
  ck (modOk (List.length t0.2 : Int)) (let v_at_v_266 : Int := (Int.fmod t0.1 (List.length t0.2 : Int))
  (atI t0.2 v_at_v_266).bind fun y269 =>
  let v_cell_270 : Int := y269
  if (decide ((1000000000000000000 : Int) ≤ v_cell_270)) = true then (
    ck (divOk a_most) ((ixN (List.length t0.2) v_at_v_266).bind fun n281 =>
    let z279 : (List Int) := List.set t0.2 n281 (Int.fdiv v_cell_270 a_most)
    ck (modOk a_most) (some ((Int.fmod v_cell_270 a_most), (t0.1, z279)))))
  else (
    let v_n_285 : Int := (t0.1 + (1 : Int))
    ck (mulOk v_cell_270 (48271 : Int)) (ck (mulOk v_n_285 (69621 : Int)) (ck (modOk (2147483647 : Int)) (let v_mixed_291 : Int := (Int.fmod ((v_cell_270 * (48271 : Int)) + (v_n_285 * (69621 : Int))) (2147483647 : Int))
    ck (mulOk v_mixed_291 (16807 : Int)) (ck (mulOk v_n_285 (7919 : Int)) (ck (modOk (1000000007 : Int)) (let v_mixed_298 : Int := (Int.fmod ((v_mixed_291 * (16807 : Int)) + (v_n_285 * (7919 : Int))) (1000000007 : Int))
    ck (divOk (7 : Int)) (ck (modOk a_most) (some ((Int.fmod (Int.fdiv v_mixed_298 (7 : Int)) a_most), (v_n_285, t0.2))))))))))))
def m__law_table (t0 : TSt)  : Option (((List (List (Int × Int))) × Int) × TSt) :=
  (m__law_take t0 (5 : Int)).bind fun r304 =>
  (m__law_take r304.2 (5 : Int)).bind fun r308 =>
  let x311 : Int := ((1 : Int) + r304.1)
  let y312 : Int := ((1 : Int) + r308.1)
  (m__law_take r308.2 (4 : Int)).bind fun r314 =>
  let v_slope_315 : Int := r314.1
  let v_bounds_317 : (List (List (Int × Int))) := ([] : (List (List (Int × Int))))
  (m__law_take r314.2 (6 : Int)).bind fun r321 =>
  let v_base_322 : Int := ((2 : Int) + r321.1)
  ck (rgOk 0 y312) (forO (rangeL 0 y312) (r321.2, v_bounds_317) (fun x326 (t325 : (TSt × (List (List (Int × Int))))) kc327 => (
    let v_row_329 : (List (Int × Int)) := ([] : (List (Int × Int)))
    ck (rgOk 0 x311) (forO (rangeL 0 x311) (t325.1, v_row_329) (fun x333 (t332 : (TSt × (List (Int × Int)))) kc334 => (
      (m__law_take t332.1 (8 : Int)).bind fun r337 =>
      let k349 := fun (z350 : Int) (j351 : TSt) => (
        let v_low_352 : Int := z350
        (m__law_take j351 (2 : Int)).bind fun r362 =>
        (atI ([(2 : Int), (8 : Int)]) r362.1).bind fun y363 =>
        (m__law_take r362.2 y363).bind fun r365 =>
        ck (decide (List.length t332.2 < SZ)) (
        let w367 : (List (Int × Int)) := t332.2 ++ [(v_low_352, (v_low_352 + r365.1))]
        kc334 (r365.2, w367)))
      if (decide ((0 : Int) < r337.1)) = true then ((m__law_take r337.2 (4 : Int)).bind fun r343 =>
      k349 (max (0 : Int) ((v_base_322 + r343.1) - (2 : Int))) r343.2) else ((m__law_take r337.2 (10 : Int)).bind fun r346 =>
      k349 r346.1 r346.2)))
      fun t368 : (TSt × (List (Int × Int))) => (
      ck (decide (List.length t325.2 < SZ)) (
      let w371 : (List (List (Int × Int))) := t325.2 ++ [t368.2]
      kc327 (t368.1, w371))))))
    fun t373 : (TSt × (List (List (Int × Int)))) => (
    some ((t373.2, v_slope_315), t373.1)))
def m__law_cells (a_table : (List (List PyData))) : Option (List (Int × Int)) :=
  let v_found_377 : (List (Int × Int)) := ([] : (List (Int × Int)))
  (atI a_table (0 : Int)).bind fun y380 =>
  ck (rgOk 0 (List.length y380 : Int)) (forO (rangeL 0 (List.length y380 : Int)) v_found_377 (fun x383 (t382 : (List (Int × Int))) kc384 => (
    ck (rgOk 0 (List.length a_table : Int)) (compO (rangeL 0 (List.length a_table : Int)) () (fun x390 (t389 : Unit) kc397 => (
      kc397 (some (x383, x390)) ())) [] fun (ys395 : List (Int × Int)) (t396 : Unit) => (
      let z399 : (List (Int × Int)) := ys395
      ck (decide (List.length t382 + List.length z399 ≤ SZ)) (
      let w398 : (List (Int × Int)) := t382 ++ z399
      kc384 w398)))))
    fun t400 : (List (Int × Int)) => (
    some t400))
def m__law_lot (fu : Nat) (a_left : (List (List Int))) (a_start : (Int × Int)) : Option (List (Int × Int)) :=
  ((atI a_left a_start.2).bind fun y403 =>
  (atI y403 a_start.1).bind fun y405 =>
  let k509 := fun z510 : (List (Int × Int)) => (
    some z510)
  if (decide ((0 : Int) < y405)) = true then (k509 ([a_start])) else (k509 ([] : (List (Int × Int))))).bind fun z409 : (List (Int × Int)) =>
  let v_found_410 : (List (Int × Int)) := z409
  let v_turning_412 : Bool := true
  let k508 := fun t506 : ((List (Int × Int)) × Bool) => (
    (some (sortB (lt2 ltI ltI) t506.1)).bind fun y507 =>
    some y507)
  whileO fu (v_found_410, v_turning_412) fun (t414 : ((List (Int × Int)) × Bool)) kc415 => (
    if t414.2 = true then (
      let v_more_418 : (List (Int × Int)) := ([] : (List (Int × Int)))
      (m__law_cells (List.map (List.map eI.enc) a_left)).bind fun r421 =>
      forO r421 v_more_418 (fun x424 (t423 : (List (Int × Int))) kc425 => (
        let v_near_443 : (List (Int × Int)) := [((x424.1 + (1 : Int)), x424.2), ((x424.1 - (1 : Int)), x424.2), (x424.1, (x424.2 + (1 : Int))), (x424.1, (x424.2 - (1 : Int)))]
        ((atI a_left x424.2).bind fun y466 =>
        (atI y466 x424.1).bind fun y468 =>
        let k494 := fun z : Bool => (some z)
        if (decide ((0 : Int) < y468)) = true then (let k495 := fun z : Bool => (k494 z)
        if (!inB (x424.1, x424.2) t414.1) = true then (compO v_near_443 () (fun x477 (t476 : Unit) kc483 => (
          if (inB x477 t414.1) = true then (kc483 (some x477) ()) else kc483 none ())) [] fun (ys481 : List (Int × Int)) (t482 : Unit) => (
          k495 (decide ((0 : Int) < (List.length ys481 : Int))))) else k495 false) else k494 false).bind fun z485 : Bool =>
        let k488 := fun j487 : (List (Int × Int)) => (
          kc425 j487)
        if z485 = true then (
          ck (decide (List.length t423 < SZ)) (
          let w493 : (List (Int × Int)) := t423 ++ [(x424.1, x424.2)]
          k488 w493))
        else (
          k488 t423)))
        fun t496 : (List (Int × Int)) => (
        let z498 : (List (Int × Int)) := t414.1
        let z499 : (List (Int × Int)) := t496
        ck (decide (List.length z498 + List.length z499 ≤ SZ)) (let v_found_500 : (List (Int × Int)) := (z498 ++ z499)
        let v_turning_503 : Bool := (decide ((0 : Int) < (List.length t496 : Int)))
        kc415 (v_found_500, v_turning_503))))
    else k508 t414)
def m_law (fu : Nat) (a_script : List Int) : Option Bool :=
  (m__law_state a_script).bind fun r512 =>
  let v_state_513 : TSt := r512
  (m__law_table v_state_513).bind fun r515 =>
  let x516 : ((List (List (Int × Int))) × Int) := r515.1
  (m__law_cells (List.map (List.map (eT2 eI eI).enc) x516.1)).bind fun r519 =>
  let v_cells_520 : (List (Int × Int)) := r519
  compO x516.1 r515.2 (fun x524 (t523 : TSt) kc545 => (
    compO x524 t523 (fun x528 (t527 : TSt) kc541 => (
      (m__law_take t527 (9 : Int)).bind fun r532 =>
      (m__law_take r532.2 (2 : Int)).bind fun r536 =>
      (atI ([(0 : Int), r532.1]) r536.1).bind fun y537 =>
      kc541 (some y537) r536.2)) [] fun (ys539 : List Int) (t540 : TSt) => (
      kc545 (some ys539) t540))) [] fun (ys543 : List (List Int)) (t544 : TSt) => (
    let v_depths_546 : (List (List Int)) := ys543
    let v_wish_548 : (List (List (Int × Int))) := ([] : (List (List (Int × Int))))
    ck (rgOk 0 (List.length x516.1 : Int)) (forO (rangeL 0 (List.length x516.1 : Int)) (t544, v_wish_548) (fun x552 (t551 : (TSt × (List (List (Int × Int))))) kc553 => (
      ck (decide (List.length t551.2 < SZ)) (
      let w557 : (List (List (Int × Int))) := t551.2 ++ [([] : (List (Int × Int)))]
      (atI x516.1 (0 : Int)).bind fun y559 =>
      ck (rgOk 0 (List.length y559 : Int)) (forO (rangeL 0 (List.length y559 : Int)) (t551.1, w557) (fun x562 (t561 : (TSt × (List (List (Int × Int))))) kc563 => (
        (atI x516.1 x552).bind fun y567 =>
        (atI y567 x562).bind fun y569 =>
        (atI v_depths_546 x552).bind fun y572 =>
        (atI y572 x562).bind fun y574 =>
        (atI x516.1 x552).bind fun y578 =>
        (atI y578 x562).bind fun y580 =>
        (atI v_depths_546 x552).bind fun y583 =>
        (atI y583 x562).bind fun y585 =>
        let x588 : Int := (max (0 : Int) (y569.1 - y574))
        let y589 : Int := (max (0 : Int) (y580.2 - y585))
        (m__law_take t561.1 (9 : Int)).bind fun r591 =>
        let k604 := fun (z605 : Int) (j606 : TSt) => (
          let v_wide_607 : Int := z605
          (ixN (List.length t561.2) x552).bind fun n616 =>
          (m__law_take j606 (7 : Int)).bind fun r621 =>
          let k635 := fun (z636 : Int) (j637 : TSt) => (
            ck (decide (List.length (List.getD t561.2 n616 []) < SZ)) (
            let z615 : (List (List (Int × Int))) := List.set t561.2 n616 (List.getD t561.2 n616 [] ++ [((max (0 : Int) (x588 - v_wide_607)), z636)])
            kc563 (j637, z615)))
          if (decide (r621.1 = (0 : Int))) = true then ((m__law_take r621.2 (3 : Int)).bind fun r630 =>
          (atI ([y589, (y589 + (1 : Int)), x588]) r630.1).bind fun y631 =>
          k635 y631 r630.2) else (k635 (y589 + v_wide_607) r621.2))
        if (decide (r591.1 = (0 : Int))) = true then ((m__law_take r591.2 (4 : Int)).bind fun r600 =>
        (atI ([(0 : Int), (0 : Int), (1 : Int), (9 : Int)]) r600.1).bind fun y601 =>
        k604 y601 r600.2) else (k604 (9 : Int) r591.2)))
        fun t639 : (TSt × (List (List (Int × Int)))) => (
        kc553 (t639.1, t639.2))))))
      fun t641 : (TSt × (List (List (Int × Int)))) => (
      (reprO ((eT3 (eL (eL (eT2 eI eI))) (eL (eL eI)) (eL (eL (eT2 eI eI)))).enc (x516.1, v_depths_546, t641.2))).bind fun y645 =>
      let v_kept_646 : Str := y645
      ck (rgOk 0 (List.length x516.1 : Int)) (compO (rangeL 0 (List.length x516.1 : Int)) () (fun x650 (t649 : Unit) kc687 => (
        (atI x516.1 (0 : Int)).bind fun y653 =>
        ck (rgOk 0 (List.length y653 : Int)) (compO (rangeL 0 (List.length y653 : Int)) () (fun x656 (t655 : Unit) kc683 => (
          (atI x516.1 x650).bind fun y660 =>
          (atI y660 x656).bind fun y662 =>
          (atI v_depths_546 x650).bind fun y665 =>
          (atI y665 x656).bind fun y667 =>
          (atI x516.1 x650).bind fun y671 =>
          (atI y671 x656).bind fun y673 =>
          (atI v_depths_546 x650).bind fun y676 =>
          (atI y676 x656).bind fun y678 =>
          kc683 (some ((max (0 : Int) (y662.1 - y667)), (max (0 : Int) (y673.2 - y678)))) ())) [] fun (ys681 : List (Int × Int)) (t682 : Unit) => (
          kc687 (some ys681) ())))) [] fun (ys685 : List (List (Int × Int))) (t686 : Unit) => (
        let v_rest_688 : (List (List (Int × Int))) := ys685
        compO v_cells_520 () (fun x692 (t691 : Unit) kc719 => (
          ((atI v_rest_688 x692.2).bind fun y694 =>
          (atI y694 x692.1).bind fun y696 =>
          (atI t641.2 x692.2).bind fun y699 =>
          (atI y699 x692.1).bind fun y701 =>
          let k1027 := fun z : Bool => (some z)
          if (decide (y696.2 < y701.1)) = true then k1027 true else ((atI v_rest_688 x692.2).bind fun y704 =>
          (atI y704 x692.1).bind fun y706 =>
          (atI t641.2 x692.2).bind fun y709 =>
          (atI y709 x692.1).bind fun y711 =>
          k1027 (decide (y711.2 < y706.1)))).bind fun z712 : Bool =>
          if z712 = true then (kc719 (some (x692.1, x692.2)) ()) else kc719 none ())) [] fun (ys717 : List (Int × Int)) (t718 : Unit) => (
          let v_spoilt_720 : (List (Int × Int)) := ys717
          compO v_cells_520 () (fun x724 (t723 : Unit) kc751 => (
            ((atI v_rest_688 x724.2).bind fun y726 =>
            (atI y726 x724.1).bind fun y728 =>
            (atI t641.2 x724.2).bind fun y731 =>
            (atI y731 x724.1).bind fun y733 =>
            let k1026 := fun z : Bool => (some z)
            if (decide (y728.1 < y733.1)) = true then k1026 true else ((atI v_rest_688 x724.2).bind fun y736 =>
            (atI y736 x724.1).bind fun y738 =>
            (atI t641.2 x724.2).bind fun y741 =>
            (atI y741 x724.1).bind fun y743 =>
            k1026 (decide (y743.2 < y738.2)))).bind fun z744 : Bool =>
            if z744 = true then (kc751 (some (x724.1, x724.2)) ()) else kc751 none ())) [] fun (ys749 : List (Int × Int)) (t750 : Unit) => (
            let v_unsure_752 : (List (Int × Int)) := ys749
            (let k1022 := fun z1023 : PyData => (
              some z1023)
            if (decide ((0 : Int) < (List.length v_spoilt_720 : Int))) = true then ((atI v_spoilt_720 (0 : Int)).bind fun y758 =>
            k1022 (PyData.tuple [PyData.str ("spoilt" : Str), ((eT2 eI eI).enc y758)])) else ((let k1024 := fun z1025 : PyData => (
              some z1025)
            if (decide ((0 : Int) < (List.length v_unsure_752 : Int))) = true then ((atI v_unsure_752 (0 : Int)).bind fun y764 =>
            k1024 (PyData.tuple [PyData.str ("open" : Str), ((eT2 eI eI).enc y764)])) else (k1024 (PyData.tuple [PyData.str ("sure" : Str)]))).bind fun z767 : PyData =>
            k1022 z767)).bind fun z768 : PyData =>
            let v_due_769 : PyData := z768
            ((m_rest_of x516.1 v_depths_546).bind fun r773 =>
            let k1020 := fun z : Bool => (some z)
            if (!decide (r773 = v_rest_688)) = true then k1020 true else ((m_verdict x516.1 v_depths_546 t641.2).bind fun r779 =>
            ck (SeqAt.shaped (eD.enc r779) && SeqAt.shaped (eD.enc v_due_769)) (let k1021 := fun z : Bool => (k1020 z)
            if (!PyData.eqv (eD.enc r779) (eD.enc v_due_769)) = true then k1021 true else ((reprO ((eT3 (eL (eL (eT2 eI eI))) (eL (eL eI)) (eL (eL (eT2 eI eI)))).enc (x516.1, v_depths_546, t641.2))).bind fun y785 =>
            k1021 (!decide (y785 = v_kept_646)))))).bind fun z787 : Bool =>
            if z787 = true then (
              some false)
            else (
              (m__law_take t641.1 (List.length v_cells_520 : Int)).bind fun r791 =>
              (atI v_cells_520 r791.1).bind fun y792 =>
              (m__law_take r791.2 (List.length v_cells_520 : Int)).bind fun r796 =>
              (atI v_cells_520 r796.1).bind fun y797 =>
              let x800 : (Int × Int) := y792
              let y801 : (Int × Int) := y797
              compO v_rest_688 () (fun x804 (t803 : Unit) kc817 => (
                compO x804 () (fun x808 (t807 : Unit) kc813 => (
                  kc813 (some x808.1) ())) [] fun (ys811 : List Int) (t812 : Unit) => (
                  kc817 (some ys811) ()))) [] fun (ys815 : List (List Int)) (t816 : Unit) => (
                (m__law_lot fu ys815 x800).bind fun r820 =>
                let v_sure_821 : (List (Int × Int)) := r820
                compO v_rest_688 () (fun x825 (t824 : Unit) kc838 => (
                  compO x825 () (fun x829 (t828 : Unit) kc834 => (
                    kc834 (some x829.2) ())) [] fun (ys832 : List Int) (t833 : Unit) => (
                    kc838 (some ys832) ()))) [] fun (ys836 : List (List Int)) (t837 : Unit) => (
                  (m__law_lot fu ys836 x800).bind fun r841 =>
                  let v_perhaps_842 : (List (Int × Int)) := r841
                  (m_hangs fu x516.1 v_depths_546 x800 y801).bind fun r848 =>
                  let v_told_849 : PyData := r848
                  (let k1016 := fun z1017 : PyData => (
                    some z1017)
                  if (inB y801 v_sure_821) = true then (k1016 (PyData.tuple [PyData.str ("surely" : Str), ((eL (eT2 eI eI)).enc v_sure_821)])) else ((let k1018 := fun z1019 : PyData => (
                    some z1019)
                  if (inB y801 v_perhaps_842) = true then (k1018 (PyData.tuple [PyData.str ("perhaps" : Str), ((eL (eT2 eI eI)).enc v_sure_821), ((eL (eT2 eI eI)).enc v_perhaps_842)])) else (k1018 (PyData.tuple [PyData.str ("never" : Str), ((eL (eT2 eI eI)).enc v_perhaps_842)]))).bind fun z863 : PyData =>
                  k1016 z863)).bind fun z864 : PyData =>
                  ck (SeqAt.shaped (eD.enc v_told_849) && SeqAt.shaped (eD.enc z864)) (if (!PyData.eqv (eD.enc v_told_849) (eD.enc z864)) = true then (
                    some false)
                  else (
                    ck (rgOk 0 (4 : Int)) (forO (rangeL 0 (4 : Int)) r796.2 (fun x868 (t867 : TSt) kc869 => (
                      compO x516.1 t867 (fun x873 (t872 : TSt) kc898 => (
                        compO x873 t872 (fun x877 (t876 : TSt) kc894 => (
                          (m__law_take t876 ((x877.2 - x877.1) + (1 : Int))).bind fun r886 =>
                          (atI ([x877.1, x877.2, (x877.1 + r886.1)]) (min x868 (2 : Int))).bind fun y890 =>
                          kc894 (some y890) r886.2)) [] fun (ys892 : List Int) (t893 : TSt) => (
                          kc898 (some ys892) t893))) [] fun (ys896 : List (List Int)) (t897 : TSt) => (
                        let v_plate_899 : (List (List Int)) := ys896
                        ck (rgOk 0 (List.length v_plate_899 : Int)) (compO (rangeL 0 (List.length v_plate_899 : Int)) () (fun x903 (t902 : Unit) kc928 => (
                          (atI v_plate_899 (0 : Int)).bind fun y906 =>
                          ck (rgOk 0 (List.length y906 : Int)) (compO (rangeL 0 (List.length y906 : Int)) () (fun x909 (t908 : Unit) kc924 => (
                            (atI v_plate_899 x903).bind fun y913 =>
                            (atI y913 x909).bind fun y915 =>
                            (atI v_depths_546 x903).bind fun y918 =>
                            (atI y918 x909).bind fun y920 =>
                            kc924 (some (max (0 : Int) (y915 - y920))) ())) [] fun (ys922 : List Int) (t923 : Unit) => (
                            kc928 (some ys922) ())))) [] fun (ys926 : List (List Int)) (t927 : Unit) => (
                          let v_left_929 : (List (List Int)) := ys926
                          compO v_cells_520 () (fun x933 (t932 : Unit) kc954 => (
                            ((atI t641.2 x933.2).bind fun y935 =>
                            (atI y935 x933.1).bind fun y937 =>
                            (atI v_left_929 x933.2).bind fun y940 =>
                            (atI y940 x933.1).bind fun y942 =>
                            let k1008 := fun z : Bool => (some z)
                            if decide (y937.1 ≤ y942) = true then ((atI t641.2 x933.2).bind fun y945 =>
                            (atI y945 x933.1).bind fun y947 =>
                            k1008 (decide (y942 ≤ y947.2))) else k1008 false).bind fun z949 : Bool =>
                            if (!z949) = true then (kc954 (some (1 : Int)) ()) else kc954 none ())) [] fun (ys952 : List Int) (t953 : Unit) => (
                            let v_good_956 : Bool := (decide ((List.length ys952 : Int) = (0 : Int)))
                            (m__law_lot fu v_left_929 x800).bind fun r961 =>
                            let v_together_962 : Bool := (inB y801 r961)
                            (((partD v_due_769 (0 : Int)).bind fun y968 =>
                            (deS y968).bind fun y969 =>
                            let k1006 := fun z : Bool => (some z)
                            if (decide (y969 = ("sure" : Str))) = true then (k1006 (!v_good_956)) else k1006 false).bind fun z971 : Bool =>
                            let k1005 := fun z : Bool => (some z)
                            if z971 = true then k1005 true else (((partD v_due_769 (0 : Int)).bind fun y977 =>
                            (deS y977).bind fun y978 =>
                            let k1007 := fun z : Bool => (some z)
                            if (decide (y978 = ("spoilt" : Str))) = true then (k1007 v_good_956) else k1007 false).bind fun z980 : Bool =>
                            k1005 z980)).bind fun z981 : Bool =>
                            if z981 = true then (
                              some false)
                            else (
                              (((partD v_told_849 (0 : Int)).bind fun y987 =>
                              (deS y987).bind fun y988 =>
                              let k1003 := fun z : Bool => (some z)
                              if (decide (y988 = ("surely" : Str))) = true then (k1003 (!v_together_962)) else k1003 false).bind fun z990 : Bool =>
                              let k1002 := fun z : Bool => (some z)
                              if z990 = true then k1002 true else (((partD v_told_849 (0 : Int)).bind fun y996 =>
                              (deS y996).bind fun y997 =>
                              let k1004 := fun z : Bool => (some z)
                              if (decide (y997 = ("never" : Str))) = true then (k1004 v_together_962) else k1004 false).bind fun z999 : Bool =>
                              k1002 z999)).bind fun z1000 : Bool =>
                              if z1000 = true then (
                                some false)
                              else (
                                kc869 t897))))))))
                      fun t1009 : TSt => (
                      (reprO ((eT3 (eL (eL (eT2 eI eI))) (eL (eL eI)) (eL (eL (eT2 eI eI)))).enc (x516.1, v_depths_546, t641.2))).bind fun y1013 =>
                      some (decide (y1013 = v_kept_646))))))))))))))))
section
variable {P : Program} {w : World} {K : Fg} {mg : Str → Option Value} {base : Heap}
abbrev n_cells_in : List Str := ["table", "high", "wide", "x", "y"]
theorem sc_cells_in : FnScope n_cells_in ["table"] (defScope s_cells_in) := ⟨rfl, rfl, rfl, by decide +kernel, rfl, by decide +kernel, by decide +kernel⟩
abbrev sp_cells_in (K : Fg) : Sp := spP K (fun a : (List (List (Int × Int))) × Unit => [.st none (List (List (Int × Int))) (it (eL (eL (eT2 eI eI)))) a.1]) (it (eL (eT2 eI eI))) (fun a => m_cells_in a.1)
set_option maxHeartbeats 0 in
theorem ok_cells_in (fa : Fa K mg) : FnOk P w K mg base CX0 1 fa.f_cells_in fa.fd_cells_in ["table"] (sp_cells_in K) := by
  refine fnP fa.F_cells_in sc_cells_in 4 rfl (fun _ => rfl) fun cdv A' outer s H E hr => ?_
  have nd := sc_cells_in.nd
  have hu := hr.units
  have hu5 : (A'.deeper (envOfC "cells_in" (defScope s_cells_in) s.heap.objs.size fa.f_cells_in cdv)).units + 65 < cLine := by have := hr.un; omega
  rintro ⟨a_table, _⟩
  exact lb_use (env := [.st none (List (List (Int × Int))) (it (eL (eL (eT2 eI eI)))) a_table, .un, .un, .un, .un])
    (lb_set 1 nd (lx_len lm_sh.w fa.z_len (lo_of (lx_var 0 cp_it rfl)) (fun _ => trivial)) (fun v_high_1 p2 => (lb_set 2 nd (lx_if (S := (it eI)) (lt_tru lm_sh.w (lo_of (lx_var 0 cp_it rfl)) (fun _ => trivial)) (fun p3 => (lx_len lm_sh.w fa.z_len (lo_of (lx_ix lm_sh.w (lo_of (lx_var 0 cp_it rfl)) (fun p4 => lx_int) (fun _ _ => trivial))) (fun _ => trivial))) (fun p3 => lx_int) (fun p3 _ => Sub.refl _) (fun p3 _ => Sub.refl _)) (fun v_wide_6 p7 => (lb_ret (lx_sh (fz_ls fz_it) (lx_lc2 rfl nd (blkOk_by (N := n_cells_in) (sc := defScope s_cells_in) (own := [("x", 3), ("y", 4)]) (by decide +kernel)) (li_range1 (by rfl) fa.z_range (lx_var 2 cp_it rfl)) [.st none (List (List (Int × Int))) (it (eL (eL (eT2 eI eI)))) a_table, .st none Int (it eI) v_high_1, .st none Int (it eI) v_wide_6, .un, .un] (fun p8 => (Sub.refl _)) (by intro i s hm he; simp at hm; rcases hm with rfl | rfl <;> (have e := Option.some.inj he; exact e.symm)) (fun _ _ _ _ _ => (lg_name 3 nd)) (fun _ _ _ _ _ x9 => (li_range1 (by rfl) fa.z_range (lx_var 1 cp_it rfl))) (fun _ _ _ _ _ x9 p10 => (lg_name 4 nd)) (fun _ _ _ _ _ x9 p10 y11 => ltl_nil) (fun _ _ _ _ _ x9 p10 y11 p12 => (lx_tup (la_cons (lx_var 3 cp_it rfl) (fun p14 => (la_cons (lx_var 4 cp_it rfl) (fun p15 => la_nil)))) (eT2 eI eI) (fun a : Int × Int × Unit => (a.1, a.2.1)) (fun a => [eI.enc a.1, eI.enc a.2.1]) (fun _ => (.cons (.cons .nil))) (fun _ => rfl))) (by intro x p i s hm he; simp at hm; subst hm; (have e := Option.some.inj he; exact e.symm)) (fun x9 p10 y11 p12 p13 => by exact (.keep (.keep (.keep (.keep (.drop Sub.nil)))))) (fun x9 p10 y11 p12 => by exact (.keep (.keep (.keep (.keep (.drop Sub.nil)))))) (fun x9 p10 => by exact (.keep (.keep (.keep (.drop (.keep Sub.nil)))))))) (fun _ => ()) (fun p => (.drop (.drop (.drop (.keep (.keep Sub.nil)))))))))))
    (by first | (unfold m_cells_in; dsimp only [id]; done) | (unfold m_cells_in; dsimp only [id]; rfl) | rfl)
abbrev n_at : List Str := ["table", "cell"]
theorem sc_at : FnScope n_at ["table", "cell"] (defScope s_at) := ⟨rfl, rfl, rfl, by decide +kernel, rfl, by decide +kernel, by decide +kernel⟩
abbrev sp_at (K : Fg) : Sp := spP K (fun a : (List (List (Int × Int))) × (Int × Int) × Unit => [.st none (List (List (Int × Int))) (it (eL (eL (eT2 eI eI)))) a.1, .st none (Int × Int) (it (eT2 eI eI)) a.2.1]) (it (eT2 eI eI)) (fun a => m_at a.1 a.2.1)
set_option maxHeartbeats 0 in
theorem ok_at (fa : Fa K mg) : FnOk P w K mg base CX0 1 fa.f_at fa.fd_at ["table", "cell"] (sp_at K) := by
  refine fnP fa.F_at sc_at 0 rfl (fun _ => rfl) fun cdv A' outer s H E hr => ?_
  have nd := sc_at.nd
  have hu := hr.units
  have hu5 : (A'.deeper (envOfC "at" (defScope s_at) s.heap.objs.size fa.f_at cdv)).units + 65 < cLine := by have := hr.un; omega
  rintro ⟨a_table, a_cell, _⟩
  exact lb_use (env := [.st none (List (List (Int × Int))) (it (eL (eL (eT2 eI eI)))) a_table, .st none (Int × Int) (it (eT2 eI eI)) a_cell])
    (lb_ret (lx_ix lm_sh.w (lo_of (lx_ix lm_sh.w (lo_of (lx_var 0 cp_it rfl)) (fun p23 => (lx_part part2_1 (lx_var 1 cp_it rfl))) (fun _ _ => trivial))) (fun p25 => (lx_part part2_0 (lx_var 1 cp_it rfl))) (fun _ _ => trivial)) (fun _ => ()) (fun p => (.drop (.drop Sub.nil))))
    (by first | (unfold m_at; dsimp only [id]; done) | (unfold m_at; dsimp only [id]; rfl) | rfl)
abbrev n_rest_of : List Str := ["bounds", "depths", "found", "y", "row", "x", "low", "high"]
theorem sc_rest_of : FnScope n_rest_of ["bounds", "depths"] (defScope s_rest_of) := ⟨rfl, rfl, rfl, by decide +kernel, rfl, by decide +kernel, by decide +kernel⟩
abbrev sp_rest_of (K : Fg) : Sp := spP K (fun a : (List (List (Int × Int))) × (List (List Int)) × Unit => [.st none (List (List (Int × Int))) (it (eL (eL (eT2 eI eI)))) a.1, .st none (List (List Int)) (it (eL (eL eI))) a.2.1]) (it (eL (eL (eT2 eI eI)))) (fun a => m_rest_of a.1 a.2.1)
set_option maxHeartbeats 0 in
theorem ok_rest_of (fa : Fa K mg) : FnOk P w K mg base CX0 1 fa.f_rest_of fa.fd_rest_of ["bounds", "depths"] (sp_rest_of K) := by
  refine fnP fa.F_rest_of sc_rest_of 6 rfl (fun _ => rfl) fun cdv A' outer s H E hr => ?_
  have nd := sc_rest_of.nd
  have hu := hr.units
  have hu5 : (A'.deeper (envOfC "rest_of" (defScope s_rest_of) s.heap.objs.size fa.f_rest_of cdv)).units + 65 < cLine := by have := hr.un; omega
  rintro ⟨a_bounds, a_depths, _⟩
  exact lb_use (env := [.st none (List (List (Int × Int))) (it (eL (eL (eT2 eI eI)))) a_bounds, .st none (List (List Int)) (it (eL (eL eI))) a_depths, .un, .un, .un, .un, .un, .un])
    (lb_set 2 nd (lx_list la_nil (eL (eT2 eI eI)) (fun _ => []) (fun _ => .nil)) (fun v_found_27 p28 => (lb_for (envT := (fun t30 : (List (List (Int × Int))) => [.st none (List (List (Int × Int))) (it (eL (eL (eT2 eI eI)))) a_bounds, .st none (List (List Int)) (it (eL (eL eI))) a_depths, .st none (List (List (Int × Int))) (ls (it (eL (eT2 eI eI)))) t30, .un, .un, .un, .un, .un])) PassesOwn.never rfl (li_enum (by rfl) fa.z_enumerate lm_sh.w (lx_var 0 cp_it rfl)) (fun p29 => v_found_27) (fun p29 => (Sub.refl _)) (fun t30 => (lg_tup (E := (eT2 eI (eL (eT2 eI eI)))) (lgs_cons (lg_name 3 nd) (fun _ => (lgs_cons (lg_name 4 nd) (fun _ => lgs_nil)))) (fun x => (x.1, x.2, ())) (fun a : Int × (List (Int × Int)) × Unit => [eI.enc (a.1), (eL (eT2 eI eI)).enc (a.2.1)]) (fun _ => (.cons (.cons .nil))) (fun _ => rfl) rfl (fun _ => rfl))) (fun x31 t30 kc32 kb33 => (lb_app 2 rfl (lx_sh (fz_ls fz_it) (lx_lc (envT := (fun t37 : Unit => [.st none (List (List (Int × Int))) (it (eL (eL (eT2 eI eI)))) a_bounds, .st none (List (List Int)) (it (eL (eL eI))) a_depths, .st none (List (List (Int × Int))) (ls (it (eL (eT2 eI eI)))) t30, .st none Int (it eI) x31.1, .st none (List (Int × Int)) (it (eL (eT2 eI eI))) x31.2, .un, .un, .un])) rfl nd (blkOk_by (N := n_rest_of) (sc := defScope s_rest_of) (own := [("x", 5), ("low", 6), ("high", 7)]) (by decide +kernel)) (li_enum (by rfl) fa.z_enumerate lm_sh.w (lx_var 4 cp_it rfl)) (fun p36 => ()) (fun p36 => (Sub.refl _)) (by intro t i s hm he; simp at hm; rcases hm with rfl | rfl | rfl <;> (have e := Option.some.inj he; exact e.symm)) (fun _ _ _ _ _ t37 => (lg_tup (E := (eT2 eI (eT2 eI eI))) (lgs_cons (lg_name 5 nd) (fun _ => (lgs_cons (lg_tup (E := (eT2 eI eI)) (lgs_cons (lg_name 6 nd) (fun _ => (lgs_cons (lg_name 7 nd) (fun _ => lgs_nil)))) (fun x => (x.1, x.2, ())) (fun a : Int × Int × Unit => [eI.enc (a.1), eI.enc (a.2.1)]) (fun _ => (.cons (.cons .nil))) (fun _ => rfl) rfl (fun _ => rfl)) (fun _ => lgs_nil)))) (fun x => (x.1, x.2, ())) (fun a : Int × (Int × Int) × Unit => [eI.enc (a.1), (eT2 eI eI).enc (a.2.1)]) (fun _ => (.cons (.cons .nil))) (fun _ => rfl) rfl (fun _ => rfl))) (fun _ _ _ _ _ t37 x38 => ltl_nil) (fun _ _ _ _ _ t37 x38 p39 => (lx_tup (la_cons (lx_max2 rfl fa.z_max lx_int (fun p40 => (lx_sub (lx_var 6 cp_it rfl) (fun p41 => (lx_ix lm_sh.w (lo_of (lx_ix lm_sh.w (lo_of (lx_var 1 cp_it rfl)) (fun p42 => (lx_var 3 cp_it rfl)) (fun _ _ => trivial))) (fun p44 => (lx_var 5 cp_it rfl)) (fun _ _ => trivial)))))) (fun p46 => (la_cons (lx_max2 rfl fa.z_max lx_int (fun p47 => (lx_sub (lx_var 7 cp_it rfl) (fun p48 => (lx_ix lm_sh.w (lo_of (lx_ix lm_sh.w (lo_of (lx_var 1 cp_it rfl)) (fun p49 => (lx_var 3 cp_it rfl)) (fun _ _ => trivial))) (fun p51 => (lx_var 5 cp_it rfl)) (fun _ _ => trivial)))))) (fun p53 => la_nil)))) (eT2 eI eI) (fun a : Int × Int × Unit => (a.1, a.2.1)) (fun a => [eI.enc a.1, eI.enc a.2.1]) (fun _ => (.cons (.cons .nil))) (fun _ => rfl))) (fun t37 x38 p39 p54 => ()) (fun t37 x38 p39 p54 => by exact (.keep (.keep (.keep (.keep (.keep (.drop (.drop (.drop Sub.nil))))))))) (fun t37 x38 p39 => ()) (fun t37 x38 p39 => by exact (.keep (.keep (.keep (.keep (.keep (.drop (.drop (.drop Sub.nil))))))))))) (fun _ => rfl) (fun y35 p34 => (lb_end (t30 ++ [y35]) (.keep (.keep (.keep (.drop (.drop (.keep (.keep (.keep Sub.nil)))))))))))) (fun t59 => (lb_ret (lx_frz 2 (fz_ls fz_it) rfl) (fun _ => ()) (fun p => (.drop (.drop (.drop (.keep (.keep (.keep (.keep (.keep Sub.nil))))))))))))))
    (by first | (unfold m_rest_of; dsimp only [id]; done) | (unfold m_rest_of; dsimp only [id]; rfl) | rfl)
abbrev n_verdict : List Str := ["bounds", "depths", "wish", "rest", "open_cell", "cell", "low", "high", "least", "most"]
theorem sc_verdict : FnScope n_verdict ["bounds", "depths", "wish"] (defScope s_verdict) := ⟨rfl, rfl, rfl, by decide +kernel, rfl, by decide +kernel, by decide +kernel⟩
abbrev sp_verdict (K : Fg) : Sp := spP K (fun a : (List (List (Int × Int))) × (List (List Int)) × (List (List (Int × Int))) × Unit => [.st none (List (List (Int × Int))) (it (eL (eL (eT2 eI eI)))) a.1, .st none (List (List Int)) (it (eL (eL eI))) a.2.1, .st none (List (List (Int × Int))) (it (eL (eL (eT2 eI eI)))) a.2.2.1]) (it eD) (fun a => m_verdict a.1 a.2.1 a.2.2.1)
set_option maxHeartbeats 0 in
theorem ok_verdict (fa : Fa K mg) : FnOk P w K mg base CX0 2 fa.f_verdict fa.fd_verdict ["bounds", "depths", "wish"] (sp_verdict K) := by
  refine fnP fa.F_verdict sc_verdict 7 rfl (fun _ => rfl) fun cdv A' outer s H E hr => ?_
  have nd := sc_verdict.nd
  have hu := hr.units
  have hu5 : (A'.deeper (envOfC "verdict" (defScope s_verdict) s.heap.objs.size fa.f_verdict cdv)).units + 65 < cLine := by have := hr.un; omega
  rintro ⟨a_bounds, a_depths, a_wish, _⟩
  exact lb_use (env := [.st none (List (List (Int × Int))) (it (eL (eL (eT2 eI eI)))) a_bounds, .st none (List (List Int)) (it (eL (eL eI))) a_depths, .st none (List (List (Int × Int))) (it (eL (eL (eT2 eI eI)))) a_wish, .un, .un, .un, .un, .un, .un, .un])
    (lb_set 3 nd (lx_call (ok_rest_of fa) (hr.mono (by decide)) fa.g_rest_of fa.F_rest_of.kp fa.b_rest_of (fun _ => (.cons cp_it (.cons cp_it .nil))) (la_cons (lx_var 0 cp_it rfl) (fun p61 => (la_cons (lx_var 1 cp_it rfl) (fun p62 => la_nil))))) (fun v_rest_64 p65 => (lb_set 4 nd (lx_as (E' := (eO (eT2 eI eI) (fun _ h => by cases h))) lx_non (fun _ => none) (fun _ => rfl)) (fun v_open_cell_66 p67 => (lb_for (envT := (fun t71 : (Option (Int × Int)) => [.st none (List (List (Int × Int))) (it (eL (eL (eT2 eI eI)))) a_bounds, .st none (List (List Int)) (it (eL (eL eI))) a_depths, .st none (List (List (Int × Int))) (it (eL (eL (eT2 eI eI)))) a_wish, .st none (List (List (Int × Int))) (it (eL (eL (eT2 eI eI)))) v_rest_64, .st none (Option (Int × Int)) (it (eO (eT2 eI eI) (fun _ h => by cases h))) t71, .un, .un, .un, .un, .un])) PassesOwn.never rfl (li_list lm_sh.w (lx_call (ok_cells_in fa) (hr.mono (by decide)) fa.g_cells_in fa.F_cells_in.kp fa.b_cells_in (fun _ => (.cons cp_it .nil)) (la_cons (lx_var 0 cp_it rfl) (fun p68 => la_nil)))) (fun p70 => v_open_cell_66) (fun p70 => (Sub.refl _)) (fun t71 => (lg_name 5 nd)) (fun x72 t71 kc73 kb74 => (lb_asg (lx_call (ok_at fa) (hr.mono (by decide)) fa.g_at fa.F_at.kp fa.b_at (fun _ => (.cons cp_it (.cons cp_it .nil))) (la_cons (lx_var 3 cp_it rfl) (fun p75 => (la_cons (lx_var 5 cp_it rfl) (fun p76 => la_nil))))) (fun p79 => (lg_tup (E := (eT2 eI eI)) (lgs_cons (lg_name 6 nd) (fun _ => (lgs_cons (lg_name 7 nd) (fun _ => lgs_nil)))) (fun x => (x.1, x.2, ())) (fun a : Int × Int × Unit => [eI.enc (a.1), eI.enc (a.2.1)]) (fun _ => (.cons (.cons .nil))) (fun _ => rfl) rfl (fun _ => rfl))) (fun x78 p79 => (lb_asg (lx_call (ok_at fa) (hr.mono (by decide)) fa.g_at fa.F_at.kp fa.b_at (fun _ => (.cons cp_it (.cons cp_it .nil))) (la_cons (lx_var 2 cp_it rfl) (fun p80 => (la_cons (lx_var 5 cp_it rfl) (fun p81 => la_nil))))) (fun p84 => (lg_tup (E := (eT2 eI eI)) (lgs_cons (lg_name 8 nd) (fun _ => (lgs_cons (lg_name 9 nd) (fun _ => lgs_nil)))) (fun x => (x.1, x.2, ())) (fun a : Int × Int × Unit => [eI.enc (a.1), eI.enc (a.2.1)]) (fun _ => (.cons (.cons .nil))) (fun _ => rfl) rfl (fun _ => rfl))) (fun x83 p84 => (lb_ifr (lt_cut (lt_w (lw_or (lt_cmp (lc_lt (lx_var 7 cp_it rfl) (fun p85 => (lx_var 8 cp_it rfl))) (nomark _)) (fun p86 => (lw_or1 (lt_cmp (lc_gt (lx_var 6 cp_it rfl) (fun p87 => (lx_var 9 cp_it rfl))) (nomark _)))) (fun p86 _ => Sub.refl _))) (fun _ => rfl)) (fun p89 => (lb_ret (lx_tup (la_cons lx_str (fun p90 => (la_cons (lx_var 5 cp_it rfl) (fun p91 => la_nil)))) eD (fun a : Str × (Int × Int) × Unit => PyData.tuple [eS.enc a.1, (eT2 eI eI).enc a.2.1]) (fun a => [eS.enc a.1, (eT2 eI eI).enc a.2.1]) (fun _ => (.cons (.cons .nil))) (fun _ => rfl)) (fun _ => ()) (fun p => (.drop (.drop (.drop (.drop (.drop (.drop (.drop (.drop (.drop (.drop Sub.nil))))))))))))) (fun p89 => (lb_if (env1 := (fun j99 : (Option (Int × Int)) => [.st none (List (List (Int × Int))) (it (eL (eL (eT2 eI eI)))) a_bounds, .st none (List (List Int)) (it (eL (eL eI))) a_depths, .st none (List (List (Int × Int))) (it (eL (eL (eT2 eI eI)))) a_wish, .st none (List (List (Int × Int))) (it (eL (eL (eT2 eI eI)))) v_rest_64, .st none (Option (Int × Int)) (it (eO (eT2 eI eI) (fun _ h => by cases h))) j99, .st none (Int × Int) (it (eT2 eI eI)) x72, .st none Int (it eI) x78.1, .st none Int (it eI) x78.2, .st none Int (it eI) x83.1, .st none Int (it eI) x83.2])) (lt_cut (lt_w (lw_and (lt_cmp (lc_isN (lx_var 4 cp_it rfl)) (nomark _)) (fun p92 => (lw_and1 (lt_cut (lt_w (lw_or (lt_cmp (lc_lt (lx_var 6 cp_it rfl) (fun p93 => (lx_var 8 cp_it rfl))) (nomark _)) (fun p94 => (lw_or1 (lt_cmp (lc_gt (lx_var 7 cp_it rfl) (fun p95 => (lx_var 9 cp_it rfl))) (nomark _)))) (fun p94 _ => Sub.refl _))) (fun _ => rfl)))) (fun p92 _ => Sub.refl _))) (fun _ => rfl)) (fun p98 => (lb_set 4 nd (lx_as (E' := (eO (eT2 eI eI) (fun _ h => by cases h))) (g := some) (lx_var 5 cp_it rfl) (hg := fun _ => rfl)) (fun v_open_cell_101 p102 => (lb_end v_open_cell_101 (Sub.refl _))))) (fun p98 => (lb_end t71 (Sub.refl _))) (fun j99 => (lb_end j99 (.keep (.keep (.keep (.keep (.keep (.drop (.drop (.drop (.drop (.drop Sub.nil)))))))))))))))))))) (fun t106 => (lb_ret (lx_cut (lx_if (S := (it eD)) (lt_cmp (lc_isN (lx_var 4 cp_it rfl)) (nomark _)) (fun p107 => (lx_tup (la_cons lx_str (fun p108 => la_nil)) eD (fun a : Str × Unit => PyData.tuple [eS.enc a.1]) (fun a => [eS.enc a.1]) (fun _ => (.cons .nil)) (fun _ => rfl))) (fun p107 => (lx_tup (la_cons lx_str (fun p109 => (la_cons (lx_var 4 cp_it rfl) (fun p110 => la_nil)))) eD (fun a : Str × (Option (Int × Int)) × Unit => PyData.tuple [eS.enc a.1, (eO (eT2 eI eI) (fun _ h => by cases h)).enc a.2.1]) (fun a => [eS.enc a.1, (eO (eT2 eI eI) (fun _ h => by cases h)).enc a.2.1]) (fun _ => (.cons (.cons .nil))) (fun _ => rfl))) (fun p107 _ => Sub.refl _) (fun p107 _ => Sub.refl _)) (fun _ => rfl)) (fun _ => ()) (fun p => (.drop (.drop (.drop (.drop (.drop (.keep (.keep (.keep (.keep (.keep Sub.nil))))))))))))))))))
    (by first | (unfold m_verdict; dsimp only [id]; done) | (unfold m_verdict; dsimp only [id]; rfl) | rfl)
abbrev n_reach_from : List Str := ["rest", "start", "side", "found", "here", "more", "x", "y", "other", "inside"]
theorem sc_reach_from : FnScope n_reach_from ["rest", "start", "side"] (defScope s_reach_from) := ⟨rfl, rfl, rfl, by decide +kernel, rfl, by decide +kernel, by decide +kernel⟩
abbrev sp_reach_from (K : Fg) (fu : Nat) : Sp := spP K (fun a : (List (List (Int × Int))) × (Int × Int) × Int × Unit => [.st none (List (List (Int × Int))) (it (eL (eL (eT2 eI eI)))) a.1, .st none (Int × Int) (it (eT2 eI eI)) a.2.1, .st none Int (it eI) a.2.2.1]) (it (eL (eT2 eI eI))) (fun a => m_reach_from fu a.1 a.2.1 a.2.2.1)
set_option maxHeartbeats 0 in
theorem ok_reach_from (fa : Fa K mg) (fu : Nat) : FnOk P w K mg base CX0 2 fa.f_reach_from fa.fd_reach_from ["rest", "start", "side"] (sp_reach_from K fu) := by
  refine fnP fa.F_reach_from sc_reach_from 7 rfl (fun _ => rfl) fun cdv A' outer s H E hr => ?_
  have nd := sc_reach_from.nd
  have hu := hr.units
  have hu5 : (A'.deeper (envOfC "reach_from" (defScope s_reach_from) s.heap.objs.size fa.f_reach_from cdv)).units + 65 < cLine := by have := hr.un; omega
  rintro ⟨a_rest, a_start, a_side, _⟩
  exact lb_use (env := [.st none (List (List (Int × Int))) (it (eL (eL (eT2 eI eI)))) a_rest, .st none (Int × Int) (it (eT2 eI eI)) a_start, .st none Int (it eI) a_side, .un, .un, .un, .un, .un, .un, .un])
    (lb_set 3 nd (lx_cut (lx_if (lt_cmp (lc_gt (lx_ixV tv_sh (lo_of (lx_as (E' := (eV eI)) (lx_call (ok_at fa) (hr.mono (by decide)) fa.g_at fa.F_at.kp fa.b_at (fun _ => (.cons cp_it (.cons cp_it .nil))) (la_cons (lx_var 0 cp_it rfl) (fun p115 => (la_cons (lx_var 1 cp_it rfl) (fun p116 => la_nil))))) (fun x => [x.1, x.2]) (fun _ => rfl))) (fun p118 => (lx_var 2 cp_it rfl)) (fun _ _ => trivial)) (fun p120 => lx_int)) (nomark _)) (fun p121 => (lx_list (la_cons (lx_var 1 cp_it rfl) (fun p122 => la_nil)) (eT2 eI eI) (fun a : (Int × Int) × Unit => [a.1]) (fun _ => (.cons .nil)))) (fun p121 => (lx_list la_nil (eT2 eI eI) (fun _ => []) (fun _ => .nil))) (fun p121 _ => Sub.refl _) (fun p121 _ => Sub.refl _)) (fun _ => rfl)) (fun v_found_124 p125 => (lb_set 4 nd (lx_listof lm_ow.w fa.z_list (lo_var 3 rfl) (fun _ => rfl)) (fun v_here_126 p127 => (lb_frz 4 (fz_ls fz_it) rfl (lb_while (envT := (fun t128 : ((List (Int × Int)) × (List (Int × Int))) => [.st none (List (List (Int × Int))) (it (eL (eL (eT2 eI eI)))) a_rest, .st none (Int × Int) (it (eT2 eI eI)) a_start, .st none Int (it eI) a_side, .st none (List (Int × Int)) (ls (it (eT2 eI eI))) t128.1, .st none (List (Int × Int)) (it (eL (eT2 eI eI))) t128.2, .un, .un, .un, .un, .un])) fu PassesOwn.never (v_found_124, v_here_126) (Sub.refl _) (fun t128 => (lt_tru lm_sh.w (lo_of (lx_var 4 cp_it rfl)) (fun _ => trivial))) (fun t128 p131 => Sub.refl _) (fun t128 p131 kc129 kb130 => (lb_set 5 nd (lx_list la_nil (eT2 eI eI) (fun _ => []) (fun _ => .nil)) (fun v_more_132 p133 => (lb_for (envT := (fun t135 : (List (Int × Int)) => [.st none (List (List (Int × Int))) (it (eL (eL (eT2 eI eI)))) a_rest, .st none (Int × Int) (it (eT2 eI eI)) a_start, .st none Int (it eI) a_side, .st none (List (Int × Int)) (ls (it (eT2 eI eI))) t128.1, .st none (List (Int × Int)) (it (eL (eT2 eI eI))) t128.2, .st none (List (Int × Int)) (ls (it (eT2 eI eI))) t135, .un, .un, .un, .un])) PassesOwn.never rfl (li_list lm_sh.w (lx_var 4 cp_it rfl)) (fun p134 => v_more_132) (fun p134 => (Sub.refl _)) (fun t135 => (lg_tup (E := (eT2 eI eI)) (lgs_cons (lg_name 6 nd) (fun _ => (lgs_cons (lg_name 7 nd) (fun _ => lgs_nil)))) (fun x => (x.1, x.2, ())) (fun a : Int × Int × Unit => [eI.enc (a.1), eI.enc (a.2.1)]) (fun _ => (.cons (.cons .nil))) (fun _ => rfl) rfl (fun _ => rfl))) (fun x136 t135 kc137 kb138 => (lb_for (envT := (fun t159 : (List (Int × Int)) => [.st none (List (List (Int × Int))) (it (eL (eL (eT2 eI eI)))) a_rest, .st none (Int × Int) (it (eT2 eI eI)) a_start, .st none Int (it eI) a_side, .st none (List (Int × Int)) (ls (it (eT2 eI eI))) t128.1, .st none (List (Int × Int)) (it (eL (eT2 eI eI))) t128.2, .st none (List (Int × Int)) (ls (it (eT2 eI eI))) t159, .st none Int (it eI) x136.1, .st none Int (it eI) x136.2, .un, .un])) PassesOwn.never rfl (li_tup tv_sh (lx_tup (la_cons (lx_tup (la_cons (lx_sub (lx_var 6 cp_it rfl) (fun p142 => lx_int)) (fun p143 => (la_cons (lx_var 7 cp_it rfl) (fun p144 => la_nil)))) (eT2 eI eI) (fun a : Int × Int × Unit => (a.1, a.2.1)) (fun a => [eI.enc a.1, eI.enc a.2.1]) (fun _ => (.cons (.cons .nil))) (fun _ => rfl)) (fun p145 => (la_cons (lx_tup (la_cons (lx_var 6 cp_it rfl) (fun p146 => (la_cons (lx_sub (lx_var 7 cp_it rfl) (fun p147 => lx_int)) (fun p148 => la_nil)))) (eT2 eI eI) (fun a : Int × Int × Unit => (a.1, a.2.1)) (fun a => [eI.enc a.1, eI.enc a.2.1]) (fun _ => (.cons (.cons .nil))) (fun _ => rfl)) (fun p149 => (la_cons (lx_tup (la_cons (lx_var 6 cp_it rfl) (fun p150 => (la_cons (lx_add (lx_var 7 cp_it rfl) (fun p151 => lx_int)) (fun p152 => la_nil)))) (eT2 eI eI) (fun a : Int × Int × Unit => (a.1, a.2.1)) (fun a => [eI.enc a.1, eI.enc a.2.1]) (fun _ => (.cons (.cons .nil))) (fun _ => rfl)) (fun p153 => (la_cons (lx_tup (la_cons (lx_add (lx_var 6 cp_it rfl) (fun p154 => lx_int)) (fun p155 => (la_cons (lx_var 7 cp_it rfl) (fun p156 => la_nil)))) (eT2 eI eI) (fun a : Int × Int × Unit => (a.1, a.2.1)) (fun a => [eI.enc a.1, eI.enc a.2.1]) (fun _ => (.cons (.cons .nil))) (fun _ => rfl)) (fun p157 => la_nil)))))))) (eV (eT2 eI eI)) (fun a : (Int × Int) × (Int × Int) × (Int × Int) × (Int × Int) × Unit => [a.1, a.2.1, a.2.2.1, a.2.2.2.1]) (fun a => [(eT2 eI eI).enc a.1, (eT2 eI eI).enc a.2.1, (eT2 eI eI).enc a.2.2.1, (eT2 eI eI).enc a.2.2.2.1]) (fun _ => (.cons (.cons (.cons (.cons .nil))))) (fun _ => rfl))) (fun p158 => t135) (fun p158 => (Sub.refl _)) (fun t159 => (lg_name 8 nd)) (fun x160 t159 kc161 kb162 => (lb_set 9 nd (lx_cut (lx_and (lx_cut (lx_chain coLe coLt lx_int (fun p163 => (lx_part part2_0 (lx_var 8 cp_it rfl))) (fun p163 p164 => (lx_len lm_sh.w fa.z_len (lo_of (lx_ix lm_sh.w (lo_of (lx_var 0 cp_it rfl)) (fun p165 => lx_int) (fun _ _ => trivial))) (fun _ => trivial))) (fun p163 p164 p167 => Sub.refl _)) (fun _ => rfl)) (fun p169 => (lx_one (lx_cut (lx_chain coLe coLt lx_int (fun p170 => (lx_part part2_1 (lx_var 8 cp_it rfl))) (fun p170 p171 => (lx_len lm_sh.w fa.z_len (lo_of (lx_var 0 cp_it rfl)) (fun _ => trivial))) (fun p170 p171 p172 => Sub.refl _)) (fun _ => rfl)))) (fun p169 _ => Sub.refl _)) (fun _ => rfl)) (fun v_inside_175 p176 => (lb_if (env1 := (fun j190 : (List (Int × Int)) => [.st none (List (List (Int × Int))) (it (eL (eL (eT2 eI eI)))) a_rest, .st none (Int × Int) (it (eT2 eI eI)) a_start, .st none Int (it eI) a_side, .st none (List (Int × Int)) (ls (it (eT2 eI eI))) t128.1, .st none (List (Int × Int)) (it (eL (eT2 eI eI))) t128.2, .st none (List (Int × Int)) (ls (it (eT2 eI eI))) j190, .st none Int (it eI) x136.1, .st none Int (it eI) x136.2, .st none (Int × Int) (it (eT2 eI eI)) x160, .st none Bool (it eB) v_inside_175])) (lt_cut (lt_w (lw_and (lt_val (lx_var 9 cp_it rfl)) (fun p177 => (lw_and (lt_cmp (lc_notInT hu5 dv_it (dv_ls dv_it) (dtT2 dtI dtI) (evT2 evI evI) (lo_of (lx_var 8 cp_it rfl)) (fun p178 => (lo_var 3 rfl)) (fun _ _ => trivial) (fun _ _ => rfl)) (by rfl)) (fun p179 => (lw_and (lt_cmp (lc_notInT hu5 dv_it (dv_ls dv_it) (dtT2 dtI dtI) (evT2 evI evI) (lo_of (lx_var 8 cp_it rfl)) (fun p180 => (lo_var 5 rfl)) (fun _ _ => trivial) (fun _ _ => rfl)) (by rfl)) (fun p181 => (lw_and1 (lt_cmp (lc_gt (lx_ixV tv_sh (lo_of (lx_as (E' := (eV eI)) (lx_call (ok_at fa) (hr.mono (by decide)) fa.g_at fa.F_at.kp fa.b_at (fun _ => (.cons cp_it (.cons cp_it .nil))) (la_cons (lx_var 0 cp_it rfl) (fun p182 => (la_cons (lx_var 8 cp_it rfl) (fun p183 => la_nil))))) (fun x => [x.1, x.2]) (fun _ => rfl))) (fun p185 => (lx_var 2 cp_it rfl)) (fun _ _ => trivial)) (fun p187 => lx_int)) (nomark _)))) (fun p181 _ => Sub.refl _))) (fun p179 _ => Sub.refl _))) (fun p177 _ => Sub.refl _))) (fun _ => rfl)) (fun p189 => (lb_app 5 rfl (lx_var 8 cp_it rfl) (fun _ => rfl) (fun y193 p192 => (lb_end (t159 ++ [y193]) (Sub.refl _))))) (fun p189 => (lb_end t159 (Sub.refl _))) (fun j190 => (lb_end j190 (.keep (.keep (.keep (.keep (.keep (.keep (.keep (.keep (.drop (.drop Sub.nil)))))))))))))))) (fun t201 => (lb_end t201 (.keep (.keep (.keep (.keep (.keep (.keep (.drop (.drop (.keep (.keep Sub.nil)))))))))))))) (fun t203 => (lb_ext 3 rfl lm_sh (lx_frz 5 (fz_ls fz_it) rfl) (fun _ => rfl) (fun y205 p204 => (lb_set 4 nd (lx_var 5 cp_it rfl) (fun v_here_207 p208 => (lb_end ((t128.1 ++ y205), v_here_207) (.keep (.keep (.keep (.keep (.keep (.drop (.keep (.keep (.keep (.keep Sub.nil)))))))))))))))))))) (fun t211 => (lb_ret (lx_sh (fz_ls fz_it) (lx_sorted hu (odT2 evI odI odI) soT2 (dtT2 dtI dtI) lm_ow.w fa.z_sorted (lo_var 3 rfl) (fun _ => rfl))) (fun _ => ()) (fun p => (.drop (.drop (.drop (.drop (.drop (.keep (.keep (.keep (.keep (.keep Sub.nil)))))))))))))))))))
    (by first | (unfold m_reach_from; dsimp only [id]; done) | (unfold m_reach_from; dsimp only [id]; rfl) | rfl)
abbrev n_hangs : List Str := ["bounds", "depths", "one", "other", "rest", "sure", "perhaps"]
theorem sc_hangs : FnScope n_hangs ["bounds", "depths", "one", "other"] (defScope s_hangs) := ⟨rfl, rfl, rfl, by decide +kernel, rfl, by decide +kernel, by decide +kernel⟩
abbrev sp_hangs (K : Fg) (fu : Nat) : Sp := spP K (fun a : (List (List (Int × Int))) × (List (List Int)) × (Int × Int) × (Int × Int) × Unit => [.st none (List (List (Int × Int))) (it (eL (eL (eT2 eI eI)))) a.1, .st none (List (List Int)) (it (eL (eL eI))) a.2.1, .st none (Int × Int) (it (eT2 eI eI)) a.2.2.1, .st none (Int × Int) (it (eT2 eI eI)) a.2.2.2.1]) (it eD) (fun a => m_hangs fu a.1 a.2.1 a.2.2.1 a.2.2.2.1)
set_option maxHeartbeats 0 in
theorem ok_hangs (fa : Fa K mg) (fu : Nat) : FnOk P w K mg base CX0 3 fa.f_hangs fa.fd_hangs ["bounds", "depths", "one", "other"] (sp_hangs K fu) := by
  refine fnP fa.F_hangs sc_hangs 3 rfl (fun _ => rfl) fun cdv A' outer s H E hr => ?_
  have nd := sc_hangs.nd
  have hu := hr.units
  have hu5 : (A'.deeper (envOfC "hangs" (defScope s_hangs) s.heap.objs.size fa.f_hangs cdv)).units + 65 < cLine := by have := hr.un; omega
  rintro ⟨a_bounds, a_depths, a_one, a_other, _⟩
  exact lb_use (env := [.st none (List (List (Int × Int))) (it (eL (eL (eT2 eI eI)))) a_bounds, .st none (List (List Int)) (it (eL (eL eI))) a_depths, .st none (Int × Int) (it (eT2 eI eI)) a_one, .st none (Int × Int) (it (eT2 eI eI)) a_other, .un, .un, .un])
    (lb_set 4 nd (lx_call (ok_rest_of fa) (hr.mono (by decide)) fa.g_rest_of fa.F_rest_of.kp fa.b_rest_of (fun _ => (.cons cp_it (.cons cp_it .nil))) (la_cons (lx_var 0 cp_it rfl) (fun p216 => (la_cons (lx_var 1 cp_it rfl) (fun p217 => la_nil))))) (fun v_rest_219 p220 => (lb_set 5 nd (lx_call (ok_reach_from fa fu) (hr.mono (by decide)) fa.g_reach_from fa.F_reach_from.kp fa.b_reach_from (fun _ => (.cons cp_it (.cons cp_it (.cons cp_it .nil)))) (la_cons (lx_var 4 cp_it rfl) (fun p221 => (la_cons (lx_var 2 cp_it rfl) (fun p222 => (la_cons lx_int (fun p223 => la_nil))))))) (fun v_sure_225 p226 => (lb_ifr (lt_cmp (lc_inT hu5 dv_it dv_it (dtT2 dtI dtI) (evT2 evI evI) (lo_of (lx_var 3 cp_it rfl)) (fun p227 => (lo_of (lx_var 5 cp_it rfl))) (fun _ _ => trivial) (fun _ _ => trivial)) (by rfl)) (fun p228 => (lb_ret (lx_tup (la_cons lx_str (fun p229 => (la_cons (lx_var 5 cp_it rfl) (fun p230 => la_nil)))) eD (fun a : Str × (List (Int × Int)) × Unit => PyData.tuple [eS.enc a.1, (eL (eT2 eI eI)).enc a.2.1]) (fun a => [eS.enc a.1, (eL (eT2 eI eI)).enc a.2.1]) (fun _ => (.cons (.cons .nil))) (fun _ => rfl)) (fun _ => ()) (fun p => (.drop (.drop (.drop (.drop (.drop (.drop (.keep Sub.nil)))))))))) (fun p228 => (lb_set 6 nd (lx_call (ok_reach_from fa fu) (hr.mono (by decide)) fa.g_reach_from fa.F_reach_from.kp fa.b_reach_from (fun _ => (.cons cp_it (.cons cp_it (.cons cp_it .nil)))) (la_cons (lx_var 4 cp_it rfl) (fun p231 => (la_cons (lx_var 2 cp_it rfl) (fun p232 => (la_cons lx_int (fun p233 => la_nil))))))) (fun v_perhaps_235 p236 => (lb_ret (lx_if (S := (it eD)) (lt_cmp (lc_inT hu5 dv_it dv_it (dtT2 dtI dtI) (evT2 evI evI) (lo_of (lx_var 3 cp_it rfl)) (fun p237 => (lo_of (lx_var 6 cp_it rfl))) (fun _ _ => trivial) (fun _ _ => trivial)) (by rfl)) (fun p238 => (lx_tup (la_cons lx_str (fun p239 => (la_cons (lx_var 5 cp_it rfl) (fun p240 => (la_cons (lx_var 6 cp_it rfl) (fun p241 => la_nil)))))) eD (fun a : Str × (List (Int × Int)) × (List (Int × Int)) × Unit => PyData.tuple [eS.enc a.1, (eL (eT2 eI eI)).enc a.2.1, (eL (eT2 eI eI)).enc a.2.2.1]) (fun a => [eS.enc a.1, (eL (eT2 eI eI)).enc a.2.1, (eL (eT2 eI eI)).enc a.2.2.1]) (fun _ => (.cons (.cons (.cons .nil)))) (fun _ => rfl))) (fun p238 => (lx_tup (la_cons lx_str (fun p242 => (la_cons (lx_var 6 cp_it rfl) (fun p243 => la_nil)))) eD (fun a : Str × (List (Int × Int)) × Unit => PyData.tuple [eS.enc a.1, (eL (eT2 eI eI)).enc a.2.1]) (fun a => [eS.enc a.1, (eL (eT2 eI eI)).enc a.2.1]) (fun _ => (.cons (.cons .nil))) (fun _ => rfl))) (fun p238 _ => Sub.refl _) (fun p238 _ => Sub.refl _)) (fun _ => ()) (fun p => (.drop (.drop (.drop (.drop (.drop (.drop (.drop Sub.nil)))))))))))))))))
    (by first | (unfold m_hangs; dsimp only [id]; done) | (unfold m_hangs; dsimp only [id]; rfl) | rfl)
abbrev n__law_state : List Str := ["script", "cells", "cell"]
theorem sc__law_state : FnScope n__law_state ["script"] (defScope s__law_state) := ⟨rfl, rfl, rfl, by decide +kernel, rfl, by decide +kernel, by decide +kernel⟩
abbrev sp__law_state (K : Fg) : Sp := spP K (fun a : List Int × Unit => [.st none (List Int) scr a.1]) stT (fun a => m__law_state a.1)
set_option maxHeartbeats 0 in
theorem ok__law_state (fa : Fa K mg) : FnOk P w K mg base CX0 1 fa.f__law_state fa.fd__law_state ["script"] (sp__law_state K) := by
  refine fnP fa.F__law_state sc__law_state 2 rfl (fun _ => rfl) fun cdv A' outer s H E hr => ?_
  have nd := sc__law_state.nd
  have hu := hr.units
  have hu5 : (A'.deeper (envOfC "_law_state" (defScope s__law_state) s.heap.objs.size fa.f__law_state cdv)).units + 65 < cLine := by have := hr.un; omega
  rintro ⟨a_script, _⟩
  exact lb_use (env := [.st none (List Int) scr a_script, .un, .un])
    (lb_setLc (envT := (fun t248 : Unit => [.st none (List Int) scr a_script, .un, .un])) rfl nd (blkOk_by (N := n__law_state) (sc := defScope s__law_state) (own := [("cell", 2)]) (by decide +kernel)) 1 (li_list lm_ow.w (lx_slR lv_scr (lx_var 0 cp_scr rfl) (fun p246 => lx_int))) (fun p247 => ()) (fun p247 => (Sub.refl _)) (by intro t i s hm he; simp at hm; subst hm; (have e := Option.some.inj he; exact e.symm)) (fun _ _ _ _ _ t248 => (lg_name 2 nd)) (fun _ _ _ _ _ t248 x249 => ltl_nil) (fun _ _ _ _ _ t248 x249 p250 => (lx_abs fa.z_abs (lx_var 2 cp_it rfl))) (fun t248 x249 p250 p251 => ()) (fun t248 x249 p250 p251 => by exact (.keep (.keep (.drop Sub.nil)))) (fun t248 x249 p250 => ()) (fun t248 x249 p250 => by exact (.keep (.keep (.drop Sub.nil)))) (fun v_cells_255 p256 => (lb_if (env1 := (fun j259 : (List Int) => [.st none (List Int) scr a_script, .st none (List Int) (ls (it eI)) j259, .un])) (lt_cmp (lc_eqI (lx_len lm_ow.w fa.z_len (lo_var 1 rfl) (fun _ => rfl)) (fun p257 => lx_int)) (nomark _)) (fun p258 => (lb_set 1 nd (lx_list (la_cons lx_int (fun p261 => la_nil)) eI (fun a : Int × Unit => [a.1]) (fun _ => (.cons .nil))) (fun v_cells_262 p263 => (lb_end v_cells_262 (Sub.refl _))))) (fun p258 => (lb_end v_cells_255 (Sub.refl _))) (fun j259 => (lb_ret (lx_st lx_int (fun p264 => (lx_move 1 rfl))) (fun _ => ()) (fun p => (.drop (.keep (.keep Sub.nil)))))))) (sw_true rfl rfl rfl (by decide +kernel)))
    (by first | (unfold m__law_state; dsimp only [id]; done) | (unfold m__law_state; dsimp only [id]; rfl) | rfl)
abbrev n__law_take : List Str := ["state", "most", "cells", "at_v", "cell", "mixed"]
theorem sc__law_take : FnScope n__law_take ["state", "most"] (defScope s__law_take) := ⟨rfl, rfl, rfl, by decide +kernel, rfl, by decide +kernel, by decide +kernel⟩
abbrev sp__law_take (K : Fg) : Sp := spI K stT (fun a : Int × Unit => [.st none Int (it eI) a.1]) (it eI) (fun t0 a => m__law_take t0 a.1)
set_option maxHeartbeats 0 in
theorem ok__law_take (fa : Fa K mg) : FnOk P w K mg base CX0 1 fa.f__law_take fa.fd__law_take ["state", "most"] (sp__law_take K) := by
  refine fnI fa.F__law_take sc__law_take 4 rfl (fun _ => rfl) fun cdv A' outer s H E hr => ?_
  have nd := sc__law_take.nd
  have hu := hr.units
  have hu5 : (A'.deeper (envOfC "_law_take" (defScope s__law_take) s.heap.objs.size fa.f__law_take cdv)).units + 65 < cLine := by have := hr.un; omega
  rintro v0 t0 ⟨a_most, _⟩
  exact lb_use (env := [.st (some v0) TSt stT t0, .st none Int (it eI) a_most, .un, .un, .un, .un])
    (lb_alias 0 2 nd rfl rfl (fun q => (lb_set 3 nd (lx_mod (lx_st0 0 rfl) (fun p265 => (lx_len lm_ow.w fa.z_len (lo_var 2 rfl) (fun _ => rfl)))) (fun v_at_v_266 p267 => (lb_set 4 nd (lx_ix lm_ow.w (lo_var 2 rfl) (fun p268 => (lx_var 3 cp_it rfl)) (fun _ _ => rfl)) (fun v_cell_270 p271 => (lb_ifr (lt_cmp (lc_ge (lx_var 4 cp_it rfl) (fun p272 => lx_int)) (nomark _)) (fun p273 => (lb_setix 2 (lx_fdiv (lx_var 4 cp_it rfl) (fun p274 => (lx_var 1 cp_it rfl))) (fun _ => rfl) (fun y275 p276 => (lx_var 3 cp_it rfl)) (fun _ _ _ => rfl) (fun y275 p276 j277 p278 z279 => (lb_join 0 2 rfl rfl (lb_ret (lx_mod (lx_var 4 cp_it rfl) (fun p280 => (lx_var 1 cp_it rfl))) (fun p => (t0.1, z279)) (fun p => (.keep (.drop (.keep (.drop (.drop (.keep Sub.nil)))))))))))) (fun p273 => (lb_st0 0 (lx_add (lx_st0 0 rfl) (fun p282 => lx_int)) (fun _ => rfl) (fun y283 p284 => (lb_set 5 nd (lx_mod (lx_int1 fa.z_int (lx_add (lx_mul (lx_var 4 cp_it rfl) (fun p287 => lx_int)) (fun p288 => (lx_mul (lx_st0 0 rfl) (fun p289 => lx_int))))) (fun p290 => lx_int)) (fun v_mixed_291 p292 => (lb_set 5 nd (lx_mod (lx_int1 fa.z_int (lx_add (lx_mul (lx_var 5 cp_it rfl) (fun p294 => lx_int)) (fun p295 => (lx_mul (lx_st0 0 rfl) (fun p296 => lx_int))))) (fun p297 => lx_int)) (fun v_mixed_298 p299 => (lb_join 0 2 rfl rfl (lb_ret (lx_mod (lx_fdiv (lx_var 5 cp_it rfl) (fun p300 => lx_int)) (fun p301 => (lx_var 1 cp_it rfl))) (fun p => (y283, t0.2)) (fun p => (.keep (.drop (.keep (.drop (.drop (.drop Sub.nil)))))))))))))))))))))))
    (by first | (unfold m__law_take; dsimp only [id]; done) | (unfold m__law_take; dsimp only [id]; rfl) | rfl)
abbrev n__law_table : List Str := ["state", "wide", "high", "slope", "bounds", "base", "y", "row", "x", "low"]
theorem sc__law_table : FnScope n__law_table ["state"] (defScope s__law_table) := ⟨rfl, rfl, rfl, by decide +kernel, rfl, by decide +kernel, by decide +kernel⟩
abbrev sp__law_table (K : Fg) : Sp := spI K stT (fun a : Unit => []) (it (eT2 (eL (eL (eT2 eI eI))) eI)) (fun t0 a => m__law_table t0 )
set_option maxHeartbeats 0 in
theorem ok__law_table (fa : Fa K mg) : FnOk P w K mg base CX0 2 fa.f__law_table fa.fd__law_table ["state"] (sp__law_table K) := by
  refine fnI fa.F__law_table sc__law_table 9 rfl (fun _ => rfl) fun cdv A' outer s H E hr => ?_
  have nd := sc__law_table.nd
  have hu := hr.units
  have hu5 : (A'.deeper (envOfC "_law_table" (defScope s__law_table) s.heap.objs.size fa.f__law_table cdv)).units + 65 < cLine := by have := hr.un; omega
  rintro v0 t0 ⟨_⟩
  exact lb_use (env := [.st (some v0) TSt stT t0, .un, .un, .un, .un, .un, .un, .un, .un, .un])
    (lb_parS 1 2 nd rfl (la_cons (lx_add lx_int (fun p302 => (lx_callI 0 (ok__law_take fa) (hr.mono (by decide)) fa.g__law_take fa.F__law_take.kp fa.b__law_take (fun _ => (.cons cp_it .nil)) rfl (la_cons lx_int (fun p303 => la_nil)) (fun _ => rfl)))) (fun p305 => (la_cons (lx_add lx_int (fun p306 => (lx_callI 0 (ok__law_take fa) (hr.mono (by decide)) fa.g__law_take fa.F__law_take.kp fa.b__law_take (fun _ => (.cons cp_it .nil)) rfl (la_cons lx_int (fun p307 => la_nil)) (fun _ => rfl)))) (fun p309 => la_nil)))) (fun _ => rfl) (fun x311 y312 p310 => (lb_set 3 nd (lx_callI 0 (ok__law_take fa) (hr.mono (by decide)) fa.g__law_take fa.F__law_take.kp fa.b__law_take (fun _ => (.cons cp_it .nil)) rfl (la_cons lx_int (fun p313 => la_nil)) (fun _ => rfl)) (fun v_slope_315 p316 => (lb_set 4 nd (lx_list la_nil (eL (eT2 eI eI)) (fun _ => []) (fun _ => .nil)) (fun v_bounds_317 p318 => (lb_set 5 nd (lx_add lx_int (fun p319 => (lx_callI 0 (ok__law_take fa) (hr.mono (by decide)) fa.g__law_take fa.F__law_take.kp fa.b__law_take (fun _ => (.cons cp_it .nil)) rfl (la_cons lx_int (fun p320 => la_nil)) (fun _ => rfl)))) (fun v_base_322 p323 => (lb_for (envT := (fun t325 : (TSt × (List (List (Int × Int)))) => [.st (some v0) TSt stT t325.1, .st none Int (it eI) x311, .st none Int (it eI) y312, .st none Int (it eI) v_slope_315, .st none (List (List (Int × Int))) (ls (it (eL (eT2 eI eI)))) t325.2, .st none Int (it eI) v_base_322, .un, .un, .un, .un])) PassesOwn.never rfl (li_range1 (by rfl) fa.z_range (lx_var 2 cp_it rfl)) (fun p324 => (p323.2.2, v_bounds_317)) (fun p324 => (Sub.refl _)) (fun t325 => (lg_name 6 nd)) (fun x326 t325 kc327 kb328 => (lb_set 7 nd (lx_list la_nil (eT2 eI eI) (fun _ => []) (fun _ => .nil)) (fun v_row_329 p330 => (lb_for (envT := (fun t332 : (TSt × (List (Int × Int))) => [.st (some v0) TSt stT t332.1, .st none Int (it eI) x311, .st none Int (it eI) y312, .st none Int (it eI) v_slope_315, .st none (List (List (Int × Int))) (ls (it (eL (eT2 eI eI)))) t325.2, .st none Int (it eI) v_base_322, .st none Int (it eI) x326, .st none (List (Int × Int)) (ls (it (eT2 eI eI))) t332.2, .un, .un])) PassesOwn.never rfl (li_range1 (by rfl) fa.z_range (lx_var 1 cp_it rfl)) (fun p331 => (t325.1, v_row_329)) (fun p331 => (Sub.refl _)) (fun t332 => (lg_name 8 nd)) (fun x333 t332 kc334 kb335 => (lb_set 9 nd (lx_ifJ (S := (it eI)) (fun j347 : TSt => [.st (some v0) TSt stT j347, .st none Int (it eI) x311, .st none Int (it eI) y312, .st none Int (it eI) v_slope_315, .st none (List (List (Int × Int))) (ls (it (eL (eT2 eI eI)))) t325.2, .st none Int (it eI) v_base_322, .st none Int (it eI) x326, .st none (List (Int × Int)) (ls (it (eT2 eI eI))) t332.2, .st none Int (it eI) x333, .un]) (lt_cmp (lc_gt (lx_callI 0 (ok__law_take fa) (hr.mono (by decide)) fa.g__law_take fa.F__law_take.kp fa.b__law_take (fun _ => (.cons cp_it .nil)) rfl (la_cons lx_int (fun p336 => la_nil)) (fun _ => rfl)) (fun p338 => lx_int)) (nomark _)) (fun p339 => (lx_max2 rfl fa.z_max lx_int (fun p340 => (lx_sub (lx_add (lx_var 5 cp_it rfl) (fun p341 => (lx_callI 0 (ok__law_take fa) (hr.mono (by decide)) fa.g__law_take fa.F__law_take.kp fa.b__law_take (fun _ => (.cons cp_it .nil)) rfl (la_cons lx_int (fun p342 => la_nil)) (fun _ => rfl)))) (fun p344 => lx_int))))) (fun p339 => (lx_callI 0 (ok__law_take fa) (hr.mono (by decide)) fa.g__law_take fa.F__law_take.kp fa.b__law_take (fun _ => (.cons cp_it .nil)) rfl (la_cons lx_int (fun p345 => la_nil)) (fun _ => rfl))) (fun p339 p348 => p348.2.1.2.2) (fun p339 p348 => p348.2) (fun p339 p348 => by exact (.keep (.keep (.keep (.keep (.keep (.keep (.keep (.keep (.keep (.keep Sub.nil))))))))))) (fun p339 p348 => by exact (.keep (.keep (.keep (.keep (.keep (.keep (.keep (.keep (.keep (.keep Sub.nil)))))))))))) (fun v_low_352 p353 => (lb_app 7 rfl (lx_tup (la_cons (lx_var 9 cp_it rfl) (fun p356 => (la_cons (lx_add (lx_var 9 cp_it rfl) (fun p357 => (lx_callI 0 (ok__law_take fa) (hr.mono (by decide)) fa.g__law_take fa.F__law_take.kp fa.b__law_take (fun _ => (.cons cp_it .nil)) rfl (la_cons (lx_ix lm_ow.w (lo_of (lx_list (la_cons lx_int (fun p358 => (la_cons lx_int (fun p359 => la_nil)))) eI (fun a : Int × Int × Unit => [a.1, a.2.1]) (fun _ => (.cons (.cons .nil))))) (fun p360 => (lx_callI 0 (ok__law_take fa) (hr.mono (by decide)) fa.g__law_take fa.F__law_take.kp fa.b__law_take (fun _ => (.cons cp_it .nil)) rfl (la_cons lx_int (fun p361 => la_nil)) (fun _ => rfl))) (fun _ _ => trivial)) (fun p364 => la_nil)) (fun _ => rfl)))) (fun p366 => la_nil)))) (eT2 eI eI) (fun a : Int × Int × Unit => (a.1, a.2.1)) (fun a => [eI.enc a.1, eI.enc a.2.1]) (fun _ => (.cons (.cons .nil))) (fun _ => rfl)) (fun _ => rfl) (fun y355 p354 => (lb_end (p354.2.1.2.2, (t332.2 ++ [y355])) (.keep (.keep (.keep (.keep (.keep (.keep (.keep (.keep (.drop (.drop Sub.nil)))))))))))))))) (fun t368 => (lb_app 4 rfl (lx_frz 7 (fz_ls fz_it) rfl) (fun _ => rfl) (fun y370 p369 => (lb_end (t368.1, (t325.2 ++ [y370])) (.keep (.keep (.keep (.keep (.keep (.keep (.drop (.drop (.keep (.keep Sub.nil)))))))))))))))))) (fun t373 => (lb_ret (lx_tup (la_cons (lx_frz 4 (fz_ls fz_it) rfl) (fun p374 => (la_cons (lx_var 3 cp_it rfl) (fun p375 => la_nil)))) (eT2 (eL (eL (eT2 eI eI))) eI) (fun a : (List (List (Int × Int))) × Int × Unit => (a.1, a.2.1)) (fun a => [(eL (eL (eT2 eI eI))).enc a.1, eI.enc a.2.1]) (fun _ => (.cons (.cons .nil))) (fun _ => rfl)) (fun p => t373.1) (fun p => (.keep (.drop (.drop (.drop (.drop (.drop (.keep (.keep (.keep (.keep Sub.nil))))))))))))))))))))))
    (by first | (unfold m__law_table; dsimp only [id]; done) | (unfold m__law_table; dsimp only [id]; rfl) | rfl)
abbrev n__law_cells : List Str := ["table", "found", "x", "y"]
theorem sc__law_cells : FnScope n__law_cells ["table"] (defScope s__law_cells) := ⟨rfl, rfl, rfl, by decide +kernel, rfl, by decide +kernel, by decide +kernel⟩
abbrev sp__law_cells (K : Fg) : Sp := spP K (fun a : (List (List PyData)) × Unit => [.st none (List (List PyData)) (it (eL (eL eD))) a.1]) (it (eL (eT2 eI eI))) (fun a => m__law_cells a.1)
set_option maxHeartbeats 0 in
theorem ok__law_cells (fa : Fa K mg) : FnOk P w K mg base CX0 1 fa.f__law_cells fa.fd__law_cells ["table"] (sp__law_cells K) := by
  refine fnP fa.F__law_cells sc__law_cells 3 rfl (fun _ => rfl) fun cdv A' outer s H E hr => ?_
  have nd := sc__law_cells.nd
  have hu := hr.units
  have hu5 : (A'.deeper (envOfC "_law_cells" (defScope s__law_cells) s.heap.objs.size fa.f__law_cells cdv)).units + 65 < cLine := by have := hr.un; omega
  rintro ⟨a_table, _⟩
  exact lb_use (env := [.st none (List (List PyData)) (it (eL (eL eD))) a_table, .un, .un, .un])
    (lb_set 1 nd (lx_list la_nil (eT2 eI eI) (fun _ => []) (fun _ => .nil)) (fun v_found_377 p378 => (lb_for (envT := (fun t382 : (List (Int × Int)) => [.st none (List (List PyData)) (it (eL (eL eD))) a_table, .st none (List (Int × Int)) (ls (it (eT2 eI eI))) t382, .un, .un])) PassesOwn.never rfl (li_range1 (by rfl) fa.z_range (lx_len lm_sh.w fa.z_len (lo_of (lx_ix lm_sh.w (lo_of (lx_var 0 cp_it rfl)) (fun p379 => lx_int) (fun _ _ => trivial))) (fun _ => trivial))) (fun p381 => v_found_377) (fun p381 => (Sub.refl _)) (fun t382 => (lg_name 2 nd)) (fun x383 t382 kc384 kb385 => (lb_ext 1 rfl lm_ow (lx_lc (envT := (fun t389 : Unit => [.st none (List (List PyData)) (it (eL (eL eD))) a_table, .st none (List (Int × Int)) (ls (it (eT2 eI eI))) t382, .st none Int (it eI) x383, .un])) rfl nd (blkOk_by (N := n__law_cells) (sc := defScope s__law_cells) (own := [("y", 3)]) (by decide +kernel)) (li_range1 (by rfl) fa.z_range (lx_len lm_sh.w fa.z_len (lo_of (lx_var 0 cp_it rfl)) (fun _ => trivial))) (fun p388 => ()) (fun p388 => (Sub.refl _)) (by intro t i s hm he; simp at hm; subst hm; (have e := Option.some.inj he; exact e.symm)) (fun _ _ _ _ _ t389 => (lg_name 3 nd)) (fun _ _ _ _ _ t389 x390 => ltl_nil) (fun _ _ _ _ _ t389 x390 p391 => (lx_tup (la_cons (lx_var 2 cp_it rfl) (fun p392 => (la_cons (lx_var 3 cp_it rfl) (fun p393 => la_nil)))) (eT2 eI eI) (fun a : Int × Int × Unit => (a.1, a.2.1)) (fun a => [eI.enc a.1, eI.enc a.2.1]) (fun _ => (.cons (.cons .nil))) (fun _ => rfl))) (fun t389 x390 p391 p394 => ()) (fun t389 x390 p391 p394 => by exact (.keep (.keep (.keep (.drop Sub.nil))))) (fun t389 x390 p391 => ()) (fun t389 x390 p391 => by exact (.keep (.keep (.keep (.drop Sub.nil)))))) (fun _ => rfl) (fun y387 p386 => (lb_end (t382 ++ y387) (.keep (.keep (.drop (.keep Sub.nil)))))))) (fun t400 => (lb_ret (lx_frz 1 (fz_ls fz_it) rfl) (fun _ => ()) (fun p => (.drop (.drop (.keep (.keep Sub.nil))))))))))
    (by first | (unfold m__law_cells; dsimp only [id]; done) | (unfold m__law_cells; dsimp only [id]; rfl) | rfl)
abbrev n__law_lot : List Str := ["left", "start", "found", "turning", "more", "x", "y", "near", "cell"]
theorem sc__law_lot : FnScope n__law_lot ["left", "start"] (defScope s__law_lot) := ⟨rfl, rfl, rfl, by decide +kernel, rfl, by decide +kernel, by decide +kernel⟩
abbrev sp__law_lot (K : Fg) (fu : Nat) : Sp := spP K (fun a : (List (List Int)) × (Int × Int) × Unit => [.st none (List (List Int)) (it (eL (eL eI))) a.1, .st none (Int × Int) (it (eT2 eI eI)) a.2.1]) (it (eL (eT2 eI eI))) (fun a => m__law_lot fu a.1 a.2.1)
set_option maxHeartbeats 0 in
theorem ok__law_lot (fa : Fa K mg) (fu : Nat) : FnOk P w K mg base CX0 2 fa.f__law_lot fa.fd__law_lot ["left", "start"] (sp__law_lot K fu) := by
  refine fnP fa.F__law_lot sc__law_lot 7 rfl (fun _ => rfl) fun cdv A' outer s H E hr => ?_
  have nd := sc__law_lot.nd
  have hu := hr.units
  have hu5 : (A'.deeper (envOfC "_law_lot" (defScope s__law_lot) s.heap.objs.size fa.f__law_lot cdv)).units + 65 < cLine := by have := hr.un; omega
  rintro ⟨a_left, a_start, _⟩
  exact lb_use (env := [.st none (List (List Int)) (it (eL (eL eI))) a_left, .st none (Int × Int) (it (eT2 eI eI)) a_start, .un, .un, .un, .un, .un, .un, .un])
    (lb_set 2 nd (lx_cut (lx_if (lt_cmp (lc_gt (lx_ix lm_sh.w (lo_of (lx_ix lm_sh.w (lo_of (lx_var 0 cp_it rfl)) (fun p402 => (lx_part part2_1 (lx_var 1 cp_it rfl))) (fun _ _ => trivial))) (fun p404 => (lx_part part2_0 (lx_var 1 cp_it rfl))) (fun _ _ => trivial)) (fun p406 => lx_int)) (nomark _)) (fun p407 => (lx_list (la_cons (lx_var 1 cp_it rfl) (fun p408 => la_nil)) (eT2 eI eI) (fun a : (Int × Int) × Unit => [a.1]) (fun _ => (.cons .nil)))) (fun p407 => (lx_list la_nil (eT2 eI eI) (fun _ => []) (fun _ => .nil))) (fun p407 _ => Sub.refl _) (fun p407 _ => Sub.refl _)) (fun _ => rfl)) (fun v_found_410 p411 => (lb_set 3 nd lx_bl (fun v_turning_412 p413 => (lb_while (envT := (fun t414 : ((List (Int × Int)) × Bool) => [.st none (List (List Int)) (it (eL (eL eI))) a_left, .st none (Int × Int) (it (eT2 eI eI)) a_start, .st none (List (Int × Int)) (ls (it (eT2 eI eI))) t414.1, .st none Bool (it eB) t414.2, .un, .un, .un, .un, .un])) fu PassesOwn.never (v_found_410, v_turning_412) (Sub.refl _) (fun t414 => (lt_val (lx_var 3 cp_it rfl))) (fun t414 p417 => Sub.refl _) (fun t414 p417 kc415 kb416 => (lb_set 4 nd (lx_list la_nil (eT2 eI eI) (fun _ => []) (fun _ => .nil)) (fun v_more_418 p419 => (lb_for (envT := (fun t423 : (List (Int × Int)) => [.st none (List (List Int)) (it (eL (eL eI))) a_left, .st none (Int × Int) (it (eT2 eI eI)) a_start, .st none (List (Int × Int)) (ls (it (eT2 eI eI))) t414.1, .st none Bool (it eB) t414.2, .st none (List (Int × Int)) (ls (it (eT2 eI eI))) t423, .un, .un, .un, .un])) PassesOwn.never rfl (li_list lm_sh.w (lx_call (ok__law_cells fa) (hr.mono (by decide)) fa.g__law_cells fa.F__law_cells.kp fa.b__law_cells (fun _ => (.cons cp_it .nil)) (la_cons (lx_as (E' := (eL (eL eD))) (lx_var 0 cp_it rfl) (List.map (List.map eI.enc)) (fun _ => eLLD)) (fun p420 => la_nil)))) (fun p422 => v_more_418) (fun p422 => (Sub.refl _)) (fun t423 => (lg_tup (E := (eT2 eI eI)) (lgs_cons (lg_name 5 nd) (fun _ => (lgs_cons (lg_name 6 nd) (fun _ => lgs_nil)))) (fun x => (x.1, x.2, ())) (fun a : Int × Int × Unit => [eI.enc (a.1), eI.enc (a.2.1)]) (fun _ => (.cons (.cons .nil))) (fun _ => rfl) rfl (fun _ => rfl))) (fun x424 t423 kc425 kb426 => (lb_set 7 nd (lx_list (la_cons (lx_tup (la_cons (lx_add (lx_var 5 cp_it rfl) (fun p427 => lx_int)) (fun p428 => (la_cons (lx_var 6 cp_it rfl) (fun p429 => la_nil)))) (eT2 eI eI) (fun a : Int × Int × Unit => (a.1, a.2.1)) (fun a => [eI.enc a.1, eI.enc a.2.1]) (fun _ => (.cons (.cons .nil))) (fun _ => rfl)) (fun p430 => (la_cons (lx_tup (la_cons (lx_sub (lx_var 5 cp_it rfl) (fun p431 => lx_int)) (fun p432 => (la_cons (lx_var 6 cp_it rfl) (fun p433 => la_nil)))) (eT2 eI eI) (fun a : Int × Int × Unit => (a.1, a.2.1)) (fun a => [eI.enc a.1, eI.enc a.2.1]) (fun _ => (.cons (.cons .nil))) (fun _ => rfl)) (fun p434 => (la_cons (lx_tup (la_cons (lx_var 5 cp_it rfl) (fun p435 => (la_cons (lx_add (lx_var 6 cp_it rfl) (fun p436 => lx_int)) (fun p437 => la_nil)))) (eT2 eI eI) (fun a : Int × Int × Unit => (a.1, a.2.1)) (fun a => [eI.enc a.1, eI.enc a.2.1]) (fun _ => (.cons (.cons .nil))) (fun _ => rfl)) (fun p438 => (la_cons (lx_tup (la_cons (lx_var 5 cp_it rfl) (fun p439 => (la_cons (lx_sub (lx_var 6 cp_it rfl) (fun p440 => lx_int)) (fun p441 => la_nil)))) (eT2 eI eI) (fun a : Int × Int × Unit => (a.1, a.2.1)) (fun a => [eI.enc a.1, eI.enc a.2.1]) (fun _ => (.cons (.cons .nil))) (fun _ => rfl)) (fun p442 => la_nil)))))))) (eT2 eI eI) (fun a : (Int × Int) × (Int × Int) × (Int × Int) × (Int × Int) × Unit => [a.1, a.2.1, a.2.2.1, a.2.2.2.1]) (fun _ => (.cons (.cons (.cons (.cons .nil)))))) (fun v_near_443 p444 => (lb_frz 7 (fz_ls fz_it) rfl (lb_if (env1 := (fun j487 : (List (Int × Int)) => [.st none (List (List Int)) (it (eL (eL eI))) a_left, .st none (Int × Int) (it (eT2 eI eI)) a_start, .st none (List (Int × Int)) (ls (it (eT2 eI eI))) t414.1, .st none Bool (it eB) t414.2, .st none (List (Int × Int)) (ls (it (eT2 eI eI))) j487, .st none Int (it eI) x424.1, .st none Int (it eI) x424.2, .st none (List (Int × Int)) (it (eL (eT2 eI eI))) v_near_443, .un])) (lt_cut (lt_w (lw_and (lt_cmp (lc_gt (lx_ix lm_sh.w (lo_of (lx_ix lm_sh.w (lo_of (lx_var 0 cp_it rfl)) (fun p465 => (lx_var 6 cp_it rfl)) (fun _ _ => trivial))) (fun p467 => (lx_var 5 cp_it rfl)) (fun _ _ => trivial)) (fun p469 => lx_int)) (nomark _)) (fun p470 => (lw_and (lt_cmp (lc_notInT hu5 dv_it (dv_ls dv_it) (dtT2 dtI dtI) (evT2 evI evI) (lo_of (lx_tup (la_cons (lx_var 5 cp_it rfl) (fun p471 => (la_cons (lx_var 6 cp_it rfl) (fun p472 => la_nil)))) (eT2 eI eI) (fun a : Int × Int × Unit => (a.1, a.2.1)) (fun a => [eI.enc a.1, eI.enc a.2.1]) (fun _ => (.cons (.cons .nil))) (fun _ => rfl))) (fun p473 => (lo_var 2 rfl)) (fun _ _ => trivial) (fun _ _ => rfl)) (by rfl)) (fun p474 => (lw_and1 (lt_cmp (lc_gt (lx_len lm_ow.w fa.z_len (lo_of (lx_lc (envT := (fun t476 : Unit => [.st none (List (List Int)) (it (eL (eL eI))) a_left, .st none (Int × Int) (it (eT2 eI eI)) a_start, .st none (List (Int × Int)) (ls (it (eT2 eI eI))) t414.1, .st none Bool (it eB) t414.2, .st none (List (Int × Int)) (ls (it (eT2 eI eI))) t423, .st none Int (it eI) x424.1, .st none Int (it eI) x424.2, .st none (List (Int × Int)) (it (eL (eT2 eI eI))) v_near_443, .un])) rfl nd (blkOk_by (N := n__law_lot) (sc := defScope s__law_lot) (own := [("cell", 8)]) (by decide +kernel)) (li_list lm_sh.w (lx_var 7 cp_it rfl)) (fun p475 => ()) (fun p475 => (Sub.refl _)) (by intro t i s hm he; simp at hm; subst hm; (have e := Option.some.inj he; exact e.symm)) (fun _ _ _ _ _ t476 => (lg_name 8 nd)) (fun _ _ _ _ _ t476 x477 => (ltl_one (lt_cmp (lc_inT hu5 dv_it (dv_ls dv_it) (dtT2 dtI dtI) (evT2 evI evI) (lo_of (lx_var 8 cp_it rfl)) (fun p478 => (lo_var 2 rfl)) (fun _ _ => trivial) (fun _ _ => rfl)) (by rfl)))) (fun _ _ _ _ _ t476 x477 p479 => (lx_var 8 cp_it rfl)) (fun t476 x477 p479 p480 => ()) (fun t476 x477 p479 p480 => by exact (.keep (.keep (.keep (.keep (.keep (.keep (.keep (.keep (.drop Sub.nil)))))))))) (fun t476 x477 p479 => ()) (fun t476 x477 p479 => by exact (.keep (.keep (.keep (.keep (.keep (.keep (.keep (.keep (.drop Sub.nil)))))))))))) (fun _ => trivial)) (fun p484 => lx_int)) (nomark _)))) (fun p474 _ => Sub.refl _))) (fun p470 _ => Sub.refl _))) (fun _ => rfl)) (fun p486 => (lb_app 4 rfl (lx_tup (la_cons (lx_var 5 cp_it rfl) (fun p491 => (la_cons (lx_var 6 cp_it rfl) (fun p492 => la_nil)))) (eT2 eI eI) (fun a : Int × Int × Unit => (a.1, a.2.1)) (fun a => [eI.enc a.1, eI.enc a.2.1]) (fun _ => (.cons (.cons .nil))) (fun _ => rfl)) (fun _ => rfl) (fun y490 p489 => (lb_end (t423 ++ [y490]) (Sub.refl _))))) (fun p486 => (lb_end t423 (Sub.refl _))) (fun j487 => (lb_end j487 (.keep (.keep (.keep (.keep (.keep (.drop (.drop (.drop (.keep Sub.nil)))))))))))))))) (fun t496 => (lb_set 2 nd (lx_cat lm_ow lm_ow (lo_var 2 rfl) (fun p497 => (lo_var 4 rfl)) (fun _ _ => rfl) (fun _ _ => rfl)) (fun v_found_500 p501 => (lb_set 3 nd (lx_cmp (lc_gt (lx_len lm_ow.w fa.z_len (lo_var 4 rfl) (fun _ => rfl)) (fun p502 => lx_int)) (nomark _)) (fun v_turning_503 p504 => (lb_end (v_found_500, v_turning_503) (.keep (.keep (.keep (.keep (.drop (.keep (.keep (.keep (.keep Sub.nil))))))))))))))))))) (fun t506 => (lb_ret (lx_sh (fz_ls fz_it) (lx_sorted hu (odT2 evI odI odI) soT2 (dtT2 dtI dtI) lm_ow.w fa.z_sorted (lo_var 2 rfl) (fun _ => rfl))) (fun _ => ()) (fun p => (.drop (.drop (.drop (.drop (.keep (.keep (.keep (.keep (.keep Sub.nil)))))))))))))))))
    (by first | (unfold m__law_lot; dsimp only [id]; done) | (unfold m__law_lot; dsimp only [id]; rfl) | rfl)
abbrev n_law : List Str := ["script", "state", "bounds", "slope", "cells", "depths", "row", "one", "wish", "y", "x", "low", "high", "wide", "kept", "rest", "spoilt", "unsure", "due", "other", "sure", "pair", "perhaps", "told", "turn", "plate", "left", "good", "together"]
theorem sc_law : FnScope n_law ["script"] (defScope s_law) := ⟨rfl, rfl, rfl, by decide +kernel, rfl, by decide +kernel, by decide +kernel⟩
abbrev sp_law (K : Fg) (fu : Nat) : Sp := spP K (fun a : List Int × Unit => [.st none (List Int) scr a.1]) (it eB) (fun a => m_law fu a.1)
set_option maxHeartbeats 0 in
theorem ok_law (fa : Fa K mg) (fu : Nat) : FnG P w K mg base 4 fa.f_law fa.fd_law ["script"] (sp_law K fu) := by
  refine fnPG fa.F_law sc_law 28 rfl (fun _ => rfl) fun cdv A' outer s H E hgd hr => ?_
  have nd := sc_law.nd
  have hu := hr.units
  have hu5 : (A'.deeper (envOfC "law" (defScope s_law) s.heap.objs.size fa.f_law cdv)).units + 65 < cLine := by have := hr.un; omega
  rintro ⟨a_script, _⟩
  exact lb_use (env := [.st none (List Int) scr a_script, .un, .un, .un, .un, .un, .un, .un, .un, .un, .un, .un, .un, .un, .un, .un, .un, .un, .un, .un, .un, .un, .un, .un, .un, .un, .un, .un, .un])
    (lb_set 1 nd (lx_call (ok__law_state fa) (hr.mono (by decide)) fa.g__law_state fa.F__law_state.kp fa.b__law_state (fun _ => (.cons cp_scr .nil)) (la_cons (lx_var 0 cp_scr rfl) (fun p511 => la_nil))) (fun v_state_513 p514 => (lb_asg (lx_callI 1 (ok__law_table fa) (hr.mono (by decide)) fa.g__law_table fa.F__law_table.kp fa.b__law_table (fun _ => .nil) rfl la_nil (fun _ => rfl)) (fun p517 => (lg_tup (E := (eT2 (eL (eL (eT2 eI eI))) eI)) (lgs_cons (lg_name 2 nd) (fun _ => (lgs_cons (lg_name 3 nd) (fun _ => lgs_nil)))) (fun x => (x.1, x.2, ())) (fun a : (List (List (Int × Int))) × Int × Unit => [(eL (eL (eT2 eI eI))).enc (a.1), eI.enc (a.2.1)]) (fun _ => (.cons (.cons .nil))) (fun _ => rfl) rfl (fun _ => rfl))) (fun x516 p517 => (lb_set 4 nd (lx_call (ok__law_cells fa) (hr.mono (by decide)) fa.g__law_cells fa.F__law_cells.kp fa.b__law_cells (fun _ => (.cons cp_it .nil)) (la_cons (lx_as (E' := (eL (eL eD))) (lx_var 2 cp_it rfl) (List.map (List.map (eT2 eI eI).enc)) (fun _ => eLLD)) (fun p518 => la_nil))) (fun v_cells_520 p521 => (lb_set 5 nd (lx_lc (envT := (fun t523 : TSt => [.st none (List Int) scr a_script, .st none TSt stT t523, .st none (List (List (Int × Int))) (it (eL (eL (eT2 eI eI)))) x516.1, .st none Int (it eI) x516.2, .st none (List (Int × Int)) (it (eL (eT2 eI eI))) v_cells_520, .un, .un, .un, .un, .un, .un, .un, .un, .un, .un, .un, .un, .un, .un, .un, .un, .un, .un, .un, .un, .un, .un, .un, .un])) rfl nd (blkOk_by (N := n_law) (sc := defScope s_law) (own := [("row", 6)]) (by decide +kernel)) (li_list lm_sh.w (lx_var 2 cp_it rfl)) (fun p522 => p517.2) (fun p522 => (Sub.refl _)) (by intro t i s hm he; simp at hm; subst hm; (have e := Option.some.inj he; exact e.symm)) (fun _ _ _ _ _ t523 => (lg_name 6 nd)) (fun _ _ _ _ _ t523 x524 => ltl_nil) (fun _ _ _ _ _ t523 x524 p525 => (lx_sh (fz_ls fz_it) (lx_lc (envT := (fun t527 : TSt => [.st none (List Int) scr a_script, .st none TSt stT t527, .st none (List (List (Int × Int))) (it (eL (eL (eT2 eI eI)))) x516.1, .st none Int (it eI) x516.2, .st none (List (Int × Int)) (it (eL (eT2 eI eI))) v_cells_520, .un, .st none (List (Int × Int)) (it (eL (eT2 eI eI))) x524, .un, .un, .un, .un, .un, .un, .un, .un, .un, .un, .un, .un, .un, .un, .un, .un, .un, .un, .un, .un, .un, .un])) rfl nd (blkOk_by (own := [("one", 7)]) (by rfl)) (li_list lm_sh.w (lx_var 6 cp_it rfl)) (fun p526 => t523) (fun p526 => (Sub.refl _)) (by intro t i s hm he; simp at hm; subst hm; (have e := Option.some.inj he; exact e.symm)) (fun _ _ _ _ _ t527 => (lg_name 7 nd)) (fun _ _ _ _ _ t527 x528 => ltl_nil) (fun _ _ _ _ _ t527 x528 p529 => (lx_ix lm_ow.w (lo_of (lx_list (la_cons lx_int (fun p530 => (la_cons (lx_callI 1 (ok__law_take fa) (hr.mono (by decide)) fa.g__law_take fa.F__law_take.kp fa.b__law_take (fun _ => (.cons cp_it .nil)) rfl (la_cons lx_int (fun p531 => la_nil)) (fun _ => rfl)) (fun p533 => la_nil)))) eI (fun a : Int × Int × Unit => [a.1, a.2.1]) (fun _ => (.cons (.cons .nil))))) (fun p534 => (lx_callI 1 (ok__law_take fa) (hr.mono (by decide)) fa.g__law_take fa.F__law_take.kp fa.b__law_take (fun _ => (.cons cp_it .nil)) rfl (la_cons lx_int (fun p535 => la_nil)) (fun _ => rfl))) (fun _ _ => trivial))) (fun t527 x528 p529 p538 => p538.2.2) (fun t527 x528 p529 p538 => by exact (.keep (.keep (.keep (.keep (.keep (.keep (.keep (.drop (.keep (.keep (.keep (.keep (.keep (.keep (.keep (.keep (.keep (.keep (.keep (.keep (.keep (.keep (.keep (.keep (.keep (.keep (.keep (.keep (.keep Sub.nil)))))))))))))))))))))))))))))) (fun t527 x528 p529 => t527) (fun t527 x528 p529 => by exact (.keep (.keep (.keep (.keep (.keep (.keep (.keep (.drop (.keep (.keep (.keep (.keep (.keep (.keep (.keep (.keep (.keep (.keep (.keep (.keep (.keep (.keep (.keep (.keep (.keep (.keep (.keep (.keep (.keep Sub.nil))))))))))))))))))))))))))))))))) (fun t523 x524 p525 p542 => p542) (fun t523 x524 p525 p542 => by exact (.keep (.keep (.keep (.keep (.keep (.keep (.drop (.keep (.keep (.keep (.keep (.keep (.keep (.keep (.keep (.keep (.keep (.keep (.keep (.keep (.keep (.keep (.keep (.keep (.keep (.keep (.keep (.keep (.keep Sub.nil)))))))))))))))))))))))))))))) (fun t523 x524 p525 => t523) (fun t523 x524 p525 => by exact (.keep (.keep (.keep (.keep (.keep (.keep (.drop (.keep (.keep (.keep (.keep (.keep (.keep (.keep (.keep (.keep (.keep (.keep (.keep (.keep (.keep (.keep (.keep (.keep (.keep (.keep (.keep (.keep (.keep Sub.nil))))))))))))))))))))))))))))))) (fun v_depths_546 p547 => (lb_set 8 nd (lx_nilS (Sa := (ls (it (eT2 eI eI))))) (fun v_wish_548 p549 => (lb_for (envT := (fun t551 : (TSt × (List (List (Int × Int)))) => [.st none (List Int) scr a_script, .st none TSt stT t551.1, .st none (List (List (Int × Int))) (it (eL (eL (eT2 eI eI)))) x516.1, .st none Int (it eI) x516.2, .st none (List (Int × Int)) (it (eL (eT2 eI eI))) v_cells_520, .st none (List (List Int)) (ls (it (eL eI))) v_depths_546, .un, .un, .st none (List (List (Int × Int))) (ls (ls (it (eT2 eI eI)))) t551.2, .un, .un, .un, .un, .un, .un, .un, .un, .un, .un, .un, .un, .un, .un, .un, .un, .un, .un, .un, .un])) PassesOwn.never rfl (li_range1 (by rfl) fa.z_range (lx_len lm_sh.w fa.z_len (lo_of (lx_var 2 cp_it rfl)) (fun _ => trivial))) (fun p550 => (p547, v_wish_548)) (fun p550 => (Sub.refl _)) (fun t551 => (lg_name 9 nd)) (fun x552 t551 kc553 kb554 => (lb_app 8 rfl (lx_list la_nil (eT2 eI eI) (fun _ => []) (fun _ => .nil)) (fun _ => rfl) (fun y556 p555 => (lb_for (envT := (fun t561 : (TSt × (List (List (Int × Int)))) => [.st none (List Int) scr a_script, .st none TSt stT t561.1, .st none (List (List (Int × Int))) (it (eL (eL (eT2 eI eI)))) x516.1, .st none Int (it eI) x516.2, .st none (List (Int × Int)) (it (eL (eT2 eI eI))) v_cells_520, .st none (List (List Int)) (ls (it (eL eI))) v_depths_546, .un, .un, .st none (List (List (Int × Int))) (ls (ls (it (eT2 eI eI)))) t561.2, .st none Int (it eI) x552, .un, .un, .un, .un, .un, .un, .un, .un, .un, .un, .un, .un, .un, .un, .un, .un, .un, .un, .un])) PassesOwn.never rfl (li_range1 (by rfl) fa.z_range (lx_len lm_sh.w fa.z_len (lo_of (lx_ix lm_sh.w (lo_of (lx_var 2 cp_it rfl)) (fun p558 => lx_int) (fun _ _ => trivial))) (fun _ => trivial))) (fun p560 => (t551.1, (t551.2 ++ [y556]))) (fun p560 => (Sub.refl _)) (fun t561 => (lg_name 10 nd)) (fun x562 t561 kc563 kb564 => (lb_parS 11 12 nd rfl (la_cons (lx_max2 rfl fa.z_max lx_int (fun p565 => (lx_sub (lx_part part2_0 (lx_ix lm_sh.w (lo_of (lx_ix lm_sh.w (lo_of (lx_var 2 cp_it rfl)) (fun p566 => (lx_var 9 cp_it rfl)) (fun _ _ => trivial))) (fun p568 => (lx_var 10 cp_it rfl)) (fun _ _ => trivial))) (fun p570 => (lx_ix lm_sh.w (lo_of (lx_ix lm_ow.w (lo_var 5 rfl) (fun p571 => (lx_var 9 cp_it rfl)) (fun _ _ => rfl))) (fun p573 => (lx_var 10 cp_it rfl)) (fun _ _ => trivial)))))) (fun p575 => (la_cons (lx_max2 rfl fa.z_max lx_int (fun p576 => (lx_sub (lx_part part2_1 (lx_ix lm_sh.w (lo_of (lx_ix lm_sh.w (lo_of (lx_var 2 cp_it rfl)) (fun p577 => (lx_var 9 cp_it rfl)) (fun _ _ => trivial))) (fun p579 => (lx_var 10 cp_it rfl)) (fun _ _ => trivial))) (fun p581 => (lx_ix lm_sh.w (lo_of (lx_ix lm_ow.w (lo_var 5 rfl) (fun p582 => (lx_var 9 cp_it rfl)) (fun _ _ => rfl))) (fun p584 => (lx_var 10 cp_it rfl)) (fun _ _ => trivial)))))) (fun p586 => la_nil)))) (fun _ => rfl) (fun x588 y589 p587 => (lb_set 13 nd (lx_ifJ (S := (it eI)) (fun j602 : TSt => [.st none (List Int) scr a_script, .st none TSt stT j602, .st none (List (List (Int × Int))) (it (eL (eL (eT2 eI eI)))) x516.1, .st none Int (it eI) x516.2, .st none (List (Int × Int)) (it (eL (eT2 eI eI))) v_cells_520, .st none (List (List Int)) (ls (it (eL eI))) v_depths_546, .un, .un, .st none (List (List (Int × Int))) (ls (ls (it (eT2 eI eI)))) t561.2, .st none Int (it eI) x552, .st none Int (it eI) x562, .st none Int (it eI) x588, .st none Int (it eI) y589, .un, .un, .un, .un, .un, .un, .un, .un, .un, .un, .un, .un, .un, .un, .un, .un]) (lt_cmp (lc_eqI (lx_callI 1 (ok__law_take fa) (hr.mono (by decide)) fa.g__law_take fa.F__law_take.kp fa.b__law_take (fun _ => (.cons cp_it .nil)) rfl (la_cons lx_int (fun p590 => la_nil)) (fun _ => rfl)) (fun p592 => lx_int)) (nomark _)) (fun p593 => (lx_ix lm_ow.w (lo_of (lx_list (la_cons lx_int (fun p594 => (la_cons lx_int (fun p595 => (la_cons lx_int (fun p596 => (la_cons lx_int (fun p597 => la_nil)))))))) eI (fun a : Int × Int × Int × Int × Unit => [a.1, a.2.1, a.2.2.1, a.2.2.2.1]) (fun _ => (.cons (.cons (.cons (.cons .nil))))))) (fun p598 => (lx_callI 1 (ok__law_take fa) (hr.mono (by decide)) fa.g__law_take fa.F__law_take.kp fa.b__law_take (fun _ => (.cons cp_it .nil)) rfl (la_cons lx_int (fun p599 => la_nil)) (fun _ => rfl))) (fun _ _ => trivial))) (fun p593 => lx_int) (fun p593 p603 => p603.2.2) (fun p593 p603 => p593.1.2) (fun p593 p603 => by exact (.keep (.keep (.keep (.keep (.keep (.keep (.keep (.keep (.keep (.keep (.keep (.keep (.keep (.keep (.keep (.keep (.keep (.keep (.keep (.keep (.keep (.keep (.keep (.keep (.keep (.keep (.keep (.keep (.keep Sub.nil)))))))))))))))))))))))))))))) (fun p593 p603 => by exact (.keep (.keep (.keep (.keep (.keep (.keep (.keep (.keep (.keep (.keep (.keep (.keep (.keep (.keep (.keep (.keep (.keep (.keep (.keep (.keep (.keep (.keep (.keep (.keep (.keep (.keep (.keep (.keep (.keep Sub.nil))))))))))))))))))))))))))))))) (fun v_wide_607 p608 => (lb_appIx 8 rfl (lx_var 9 cp_it rfl) (fun _ => rfl) (fun q613 vs614 p609 => (lx_tup (la_cons (lx_max2 rfl fa.z_max lx_int (fun p617 => (lx_sub (lx_var 11 cp_it rfl) (fun p618 => (lx_var 13 cp_it rfl))))) (fun p619 => (la_cons (lx_ifJ (S := (it eI)) (fun j633 : TSt => [.st none (List Int) scr a_script, .st none TSt stT j633, .st none (List (List (Int × Int))) (it (eL (eL (eT2 eI eI)))) x516.1, .st none Int (it eI) x516.2, .st none (List (Int × Int)) (it (eL (eT2 eI eI))) v_cells_520, .st none (List (List Int)) (ls (it (eL eI))) v_depths_546, .un, .un, .st none (List (List (Int × Int))) (pinL (ls (it (eT2 eI eI))) q613 vs614) t561.2, .st none Int (it eI) x552, .st none Int (it eI) x562, .st none Int (it eI) x588, .st none Int (it eI) y589, .st none Int (it eI) v_wide_607, .un, .un, .un, .un, .un, .un, .un, .un, .un, .un, .un, .un, .un, .un, .un]) (lt_cmp (lc_eqI (lx_callI 1 (ok__law_take fa) (hr.mono (by decide)) fa.g__law_take fa.F__law_take.kp fa.b__law_take (fun _ => (.cons cp_it .nil)) rfl (la_cons lx_int (fun p620 => la_nil)) (fun _ => rfl)) (fun p622 => lx_int)) (nomark _)) (fun p623 => (lx_ix lm_ow.w (lo_of (lx_list (la_cons (lx_var 12 cp_it rfl) (fun p624 => (la_cons (lx_add (lx_var 12 cp_it rfl) (fun p625 => lx_int)) (fun p626 => (la_cons (lx_var 11 cp_it rfl) (fun p627 => la_nil)))))) eI (fun a : Int × Int × Int × Unit => [a.1, a.2.1, a.2.2.1]) (fun _ => (.cons (.cons (.cons .nil)))))) (fun p628 => (lx_callI 1 (ok__law_take fa) (hr.mono (by decide)) fa.g__law_take fa.F__law_take.kp fa.b__law_take (fun _ => (.cons cp_it .nil)) rfl (la_cons lx_int (fun p629 => la_nil)) (fun _ => rfl))) (fun _ _ => trivial))) (fun p623 => (lx_add (lx_var 12 cp_it rfl) (fun p632 => (lx_var 13 cp_it rfl)))) (fun p623 p634 => p634.2.2) (fun p623 p634 => p623.1.2) (fun p623 p634 => by exact (.keep (.keep (.keep (.keep (.keep (.keep (.keep (.keep (.keep (.keep (.keep (.keep (.keep (.keep (.keep (.keep (.keep (.keep (.keep (.keep (.keep (.keep (.keep (.keep (.keep (.keep (.keep (.keep (.keep Sub.nil)))))))))))))))))))))))))))))) (fun p623 p634 => by exact (.keep (.keep (.keep (.keep (.keep (.keep (.keep (.keep (.keep (.keep (.keep (.keep (.keep (.keep (.keep (.keep (.keep (.keep (.keep (.keep (.keep (.keep (.keep (.keep (.keep (.keep (.keep (.keep (.keep Sub.nil))))))))))))))))))))))))))))))) (fun p638 => la_nil)))) (eT2 eI eI) (fun a : Int × Int × Unit => (a.1, a.2.1)) (fun a => [eI.enc a.1, eI.enc a.2.1]) (fun _ => (.cons (.cons .nil))) (fun _ => rfl))) (fun _ _ _ _ => rfl) (fun q613 vs614 j610 p609 y611 p612 z615 => (lb_end (p612.2.1, z615) (.keep (.keep (.keep (.keep (.keep (.keep (.keep (.keep (.keep (.keep (.drop (.drop (.drop (.drop (.keep (.keep (.keep (.keep (.keep (.keep (.keep (.keep (.keep (.keep (.keep (.keep (.keep (.keep (.keep Sub.nil))))))))))))))))))))))))))))))))))))) (fun t639 => (lb_end (t639.1, t639.2) (.keep (.keep (.keep (.keep (.keep (.keep (.keep (.keep (.keep (.drop (.keep (.keep (.keep (.keep (.keep (.keep (.keep (.keep (.keep (.keep (.keep (.keep (.keep (.keep (.keep (.keep (.keep (.keep (.keep Sub.nil))))))))))))))))))))))))))))))))))) (fun t641 => (lb_set 14 nd (lx_repr hgd hu dv_it fa.z_repr (lo_of (lx_tup (la_cons (lx_var 2 cp_it rfl) (fun p642 => (la_cons (lx_frz 5 (fz_ls fz_it) rfl) (fun p643 => (la_cons (lx_frz 8 (fz_ls (fz_ls fz_it)) rfl) (fun p644 => la_nil)))))) (eT3 (eL (eL (eT2 eI eI))) (eL (eL eI)) (eL (eL (eT2 eI eI)))) (fun a : (List (List (Int × Int))) × (List (List Int)) × (List (List (Int × Int))) × Unit => (a.1, a.2.1, a.2.2.1)) (fun a => [(eL (eL (eT2 eI eI))).enc a.1, (eL (eL eI)).enc a.2.1, (eL (eL (eT2 eI eI))).enc a.2.2.1]) (fun _ => (.cons (.cons (.cons .nil)))) (fun _ => rfl))) (fun _ => trivial)) (fun v_kept_646 p647 => (lb_set 15 nd (lx_lc (envT := (fun t649 : Unit => [.st none (List Int) scr a_script, .st none TSt stT t641.1, .st none (List (List (Int × Int))) (it (eL (eL (eT2 eI eI)))) x516.1, .st none Int (it eI) x516.2, .st none (List (Int × Int)) (it (eL (eT2 eI eI))) v_cells_520, .st none (List (List Int)) (it (eL (eL eI))) v_depths_546, .un, .un, .st none (List (List (Int × Int))) (it (eL (eL (eT2 eI eI)))) t641.2, .un, .un, .un, .un, .un, .st none Str (it eS) v_kept_646, .un, .un, .un, .un, .un, .un, .un, .un, .un, .un, .un, .un, .un, .un])) rfl nd (blkOk_by (N := n_law) (sc := defScope s_law) (own := [("y", 9)]) (by decide +kernel)) (li_range1 (by rfl) fa.z_range (lx_len lm_sh.w fa.z_len (lo_of (lx_var 2 cp_it rfl)) (fun _ => trivial))) (fun p648 => ()) (fun p648 => (Sub.refl _)) (by intro t i s hm he; simp at hm; subst hm; (have e := Option.some.inj he; exact e.symm)) (fun _ _ _ _ _ t649 => (lg_name 9 nd)) (fun _ _ _ _ _ t649 x650 => ltl_nil) (fun _ _ _ _ _ t649 x650 p651 => (lx_sh (fz_ls fz_it) (lx_lc (envT := (fun t655 : Unit => [.st none (List Int) scr a_script, .st none TSt stT t641.1, .st none (List (List (Int × Int))) (it (eL (eL (eT2 eI eI)))) x516.1, .st none Int (it eI) x516.2, .st none (List (Int × Int)) (it (eL (eT2 eI eI))) v_cells_520, .st none (List (List Int)) (it (eL (eL eI))) v_depths_546, .un, .un, .st none (List (List (Int × Int))) (it (eL (eL (eT2 eI eI)))) t641.2, .st none Int (it eI) x650, .un, .un, .un, .un, .st none Str (it eS) v_kept_646, .un, .un, .un, .un, .un, .un, .un, .un, .un, .un, .un, .un, .un, .un])) rfl nd (blkOk_by (own := [("x", 10)]) (by rfl)) (li_range1 (by rfl) fa.z_range (lx_len lm_sh.w fa.z_len (lo_of (lx_ix lm_sh.w (lo_of (lx_var 2 cp_it rfl)) (fun p652 => lx_int) (fun _ _ => trivial))) (fun _ => trivial))) (fun p654 => ()) (fun p654 => (Sub.refl _)) (by intro t i s hm he; simp at hm; subst hm; (have e := Option.some.inj he; exact e.symm)) (fun _ _ _ _ _ t655 => (lg_name 10 nd)) (fun _ _ _ _ _ t655 x656 => ltl_nil) (fun _ _ _ _ _ t655 x656 p657 => (lx_tup (la_cons (lx_max2 rfl fa.z_max lx_int (fun p658 => (lx_sub (lx_part part2_0 (lx_ix lm_sh.w (lo_of (lx_ix lm_sh.w (lo_of (lx_var 2 cp_it rfl)) (fun p659 => (lx_var 9 cp_it rfl)) (fun _ _ => trivial))) (fun p661 => (lx_var 10 cp_it rfl)) (fun _ _ => trivial))) (fun p663 => (lx_ix lm_sh.w (lo_of (lx_ix lm_sh.w (lo_of (lx_var 5 cp_it rfl)) (fun p664 => (lx_var 9 cp_it rfl)) (fun _ _ => trivial))) (fun p666 => (lx_var 10 cp_it rfl)) (fun _ _ => trivial)))))) (fun p668 => (la_cons (lx_max2 rfl fa.z_max lx_int (fun p669 => (lx_sub (lx_part part2_1 (lx_ix lm_sh.w (lo_of (lx_ix lm_sh.w (lo_of (lx_var 2 cp_it rfl)) (fun p670 => (lx_var 9 cp_it rfl)) (fun _ _ => trivial))) (fun p672 => (lx_var 10 cp_it rfl)) (fun _ _ => trivial))) (fun p674 => (lx_ix lm_sh.w (lo_of (lx_ix lm_sh.w (lo_of (lx_var 5 cp_it rfl)) (fun p675 => (lx_var 9 cp_it rfl)) (fun _ _ => trivial))) (fun p677 => (lx_var 10 cp_it rfl)) (fun _ _ => trivial)))))) (fun p679 => la_nil)))) (eT2 eI eI) (fun a : Int × Int × Unit => (a.1, a.2.1)) (fun a => [eI.enc a.1, eI.enc a.2.1]) (fun _ => (.cons (.cons .nil))) (fun _ => rfl))) (fun t655 x656 p657 p680 => ()) (fun t655 x656 p657 p680 => by exact (.keep (.keep (.keep (.keep (.keep (.keep (.keep (.keep (.keep (.keep (.drop (.keep (.keep (.keep (.keep (.keep (.keep (.keep (.keep (.keep (.keep (.keep (.keep (.keep (.keep (.keep (.keep (.keep (.keep Sub.nil)))))))))))))))))))))))))))))) (fun t655 x656 p657 => ()) (fun t655 x656 p657 => by exact (.keep (.keep (.keep (.keep (.keep (.keep (.keep (.keep (.keep (.keep (.drop (.keep (.keep (.keep (.keep (.keep (.keep (.keep (.keep (.keep (.keep (.keep (.keep (.keep (.keep (.keep (.keep (.keep (.keep Sub.nil))))))))))))))))))))))))))))))))) (fun t649 x650 p651 p684 => ()) (fun t649 x650 p651 p684 => by exact (.keep (.keep (.keep (.keep (.keep (.keep (.keep (.keep (.keep (.drop (.keep (.keep (.keep (.keep (.keep (.keep (.keep (.keep (.keep (.keep (.keep (.keep (.keep (.keep (.keep (.keep (.keep (.keep (.keep Sub.nil)))))))))))))))))))))))))))))) (fun t649 x650 p651 => ()) (fun t649 x650 p651 => by exact (.keep (.keep (.keep (.keep (.keep (.keep (.keep (.keep (.keep (.drop (.keep (.keep (.keep (.keep (.keep (.keep (.keep (.keep (.keep (.keep (.keep (.keep (.keep (.keep (.keep (.keep (.keep (.keep (.keep Sub.nil))))))))))))))))))))))))))))))) (fun v_rest_688 p689 => (lb_setLc (envT := (fun t691 : Unit => [.st none (List Int) scr a_script, .st none TSt stT t641.1, .st none (List (List (Int × Int))) (it (eL (eL (eT2 eI eI)))) x516.1, .st none Int (it eI) x516.2, .st none (List (Int × Int)) (it (eL (eT2 eI eI))) v_cells_520, .st none (List (List Int)) (it (eL (eL eI))) v_depths_546, .un, .un, .st none (List (List (Int × Int))) (it (eL (eL (eT2 eI eI)))) t641.2, .un, .un, .un, .un, .un, .st none Str (it eS) v_kept_646, .st none (List (List (Int × Int))) (ls (it (eL (eT2 eI eI)))) v_rest_688, .un, .un, .un, .un, .un, .un, .un, .un, .un, .un, .un, .un, .un])) rfl nd (blkOk_by (N := n_law) (sc := defScope s_law) (own := [("x", 10), ("y", 9)]) (by decide +kernel)) 16 (li_list lm_sh.w (lx_var 4 cp_it rfl)) (fun p690 => ()) (fun p690 => (Sub.refl _)) (by intro t i s hm he; simp at hm; rcases hm with rfl | rfl <;> (have e := Option.some.inj he; exact e.symm)) (fun _ _ _ _ _ t691 => (lg_tup (E := (eT2 eI eI)) (lgs_cons (lg_name 10 nd) (fun _ => (lgs_cons (lg_name 9 nd) (fun _ => lgs_nil)))) (fun x => (x.1, x.2, ())) (fun a : Int × Int × Unit => [eI.enc (a.1), eI.enc (a.2.1)]) (fun _ => (.cons (.cons .nil))) (fun _ => rfl) rfl (fun _ => rfl))) (fun _ _ _ _ _ t691 x692 => (ltl_one (lt_cut (lt_w (lw_or (lt_cmp (lc_lt (lx_part part2_1 (lx_ix lm_sh.w (lo_of (lx_ix lm_ow.w (lo_var 15 rfl) (fun p693 => (lx_var 9 cp_it rfl)) (fun _ _ => rfl))) (fun p695 => (lx_var 10 cp_it rfl)) (fun _ _ => trivial))) (fun p697 => (lx_part part2_0 (lx_ix lm_sh.w (lo_of (lx_ix lm_sh.w (lo_of (lx_var 8 cp_it rfl)) (fun p698 => (lx_var 9 cp_it rfl)) (fun _ _ => trivial))) (fun p700 => (lx_var 10 cp_it rfl)) (fun _ _ => trivial))))) (nomark _)) (fun p702 => (lw_or1 (lt_cmp (lc_gt (lx_part part2_0 (lx_ix lm_sh.w (lo_of (lx_ix lm_ow.w (lo_var 15 rfl) (fun p703 => (lx_var 9 cp_it rfl)) (fun _ _ => rfl))) (fun p705 => (lx_var 10 cp_it rfl)) (fun _ _ => trivial))) (fun p707 => (lx_part part2_1 (lx_ix lm_sh.w (lo_of (lx_ix lm_sh.w (lo_of (lx_var 8 cp_it rfl)) (fun p708 => (lx_var 9 cp_it rfl)) (fun _ _ => trivial))) (fun p710 => (lx_var 10 cp_it rfl)) (fun _ _ => trivial))))) (nomark _)))) (fun p702 _ => Sub.refl _))) (fun _ => rfl)))) (fun _ _ _ _ _ t691 x692 p713 => (lx_tup (la_cons (lx_var 10 cp_it rfl) (fun p714 => (la_cons (lx_var 9 cp_it rfl) (fun p715 => la_nil)))) (eT2 eI eI) (fun a : Int × Int × Unit => (a.1, a.2.1)) (fun a => [eI.enc a.1, eI.enc a.2.1]) (fun _ => (.cons (.cons .nil))) (fun _ => rfl))) (fun t691 x692 p713 p716 => ()) (fun t691 x692 p713 p716 => by exact (.keep (.keep (.keep (.keep (.keep (.keep (.keep (.keep (.keep (.drop (.drop (.keep (.keep (.keep (.keep (.keep (.keep (.keep (.keep (.keep (.keep (.keep (.keep (.keep (.keep (.keep (.keep (.keep (.keep Sub.nil)))))))))))))))))))))))))))))) (fun t691 x692 p713 => ()) (fun t691 x692 p713 => by exact (.keep (.keep (.keep (.keep (.keep (.keep (.keep (.keep (.keep (.drop (.drop (.keep (.keep (.keep (.keep (.keep (.keep (.keep (.keep (.keep (.keep (.keep (.keep (.keep (.keep (.keep (.keep (.keep (.keep Sub.nil)))))))))))))))))))))))))))))) (fun v_spoilt_720 p721 => (lb_setLc (envT := (fun t723 : Unit => [.st none (List Int) scr a_script, .st none TSt stT t641.1, .st none (List (List (Int × Int))) (it (eL (eL (eT2 eI eI)))) x516.1, .st none Int (it eI) x516.2, .st none (List (Int × Int)) (it (eL (eT2 eI eI))) v_cells_520, .st none (List (List Int)) (it (eL (eL eI))) v_depths_546, .un, .un, .st none (List (List (Int × Int))) (it (eL (eL (eT2 eI eI)))) t641.2, .un, .un, .un, .un, .un, .st none Str (it eS) v_kept_646, .st none (List (List (Int × Int))) (ls (it (eL (eT2 eI eI)))) v_rest_688, .st none (List (Int × Int)) (ls (it (eT2 eI eI))) v_spoilt_720, .un, .un, .un, .un, .un, .un, .un, .un, .un, .un, .un, .un])) rfl nd (blkOk_by (N := n_law) (sc := defScope s_law) (own := [("x", 10), ("y", 9)]) (by decide +kernel)) 17 (li_list lm_sh.w (lx_var 4 cp_it rfl)) (fun p722 => ()) (fun p722 => (Sub.refl _)) (by intro t i s hm he; simp at hm; rcases hm with rfl | rfl <;> (have e := Option.some.inj he; exact e.symm)) (fun _ _ _ _ _ t723 => (lg_tup (E := (eT2 eI eI)) (lgs_cons (lg_name 10 nd) (fun _ => (lgs_cons (lg_name 9 nd) (fun _ => lgs_nil)))) (fun x => (x.1, x.2, ())) (fun a : Int × Int × Unit => [eI.enc (a.1), eI.enc (a.2.1)]) (fun _ => (.cons (.cons .nil))) (fun _ => rfl) rfl (fun _ => rfl))) (fun _ _ _ _ _ t723 x724 => (ltl_one (lt_cut (lt_w (lw_or (lt_cmp (lc_lt (lx_part part2_0 (lx_ix lm_sh.w (lo_of (lx_ix lm_ow.w (lo_var 15 rfl) (fun p725 => (lx_var 9 cp_it rfl)) (fun _ _ => rfl))) (fun p727 => (lx_var 10 cp_it rfl)) (fun _ _ => trivial))) (fun p729 => (lx_part part2_0 (lx_ix lm_sh.w (lo_of (lx_ix lm_sh.w (lo_of (lx_var 8 cp_it rfl)) (fun p730 => (lx_var 9 cp_it rfl)) (fun _ _ => trivial))) (fun p732 => (lx_var 10 cp_it rfl)) (fun _ _ => trivial))))) (nomark _)) (fun p734 => (lw_or1 (lt_cmp (lc_gt (lx_part part2_1 (lx_ix lm_sh.w (lo_of (lx_ix lm_ow.w (lo_var 15 rfl) (fun p735 => (lx_var 9 cp_it rfl)) (fun _ _ => rfl))) (fun p737 => (lx_var 10 cp_it rfl)) (fun _ _ => trivial))) (fun p739 => (lx_part part2_1 (lx_ix lm_sh.w (lo_of (lx_ix lm_sh.w (lo_of (lx_var 8 cp_it rfl)) (fun p740 => (lx_var 9 cp_it rfl)) (fun _ _ => trivial))) (fun p742 => (lx_var 10 cp_it rfl)) (fun _ _ => trivial))))) (nomark _)))) (fun p734 _ => Sub.refl _))) (fun _ => rfl)))) (fun _ _ _ _ _ t723 x724 p745 => (lx_tup (la_cons (lx_var 10 cp_it rfl) (fun p746 => (la_cons (lx_var 9 cp_it rfl) (fun p747 => la_nil)))) (eT2 eI eI) (fun a : Int × Int × Unit => (a.1, a.2.1)) (fun a => [eI.enc a.1, eI.enc a.2.1]) (fun _ => (.cons (.cons .nil))) (fun _ => rfl))) (fun t723 x724 p745 p748 => ()) (fun t723 x724 p745 p748 => by exact (.keep (.keep (.keep (.keep (.keep (.keep (.keep (.keep (.keep (.drop (.drop (.keep (.keep (.keep (.keep (.keep (.keep (.keep (.keep (.keep (.keep (.keep (.keep (.keep (.keep (.keep (.keep (.keep (.keep Sub.nil)))))))))))))))))))))))))))))) (fun t723 x724 p745 => ()) (fun t723 x724 p745 => by exact (.keep (.keep (.keep (.keep (.keep (.keep (.keep (.keep (.keep (.drop (.drop (.keep (.keep (.keep (.keep (.keep (.keep (.keep (.keep (.keep (.keep (.keep (.keep (.keep (.keep (.keep (.keep (.keep (.keep Sub.nil)))))))))))))))))))))))))))))) (fun v_unsure_752 p753 => (lb_set 18 nd (lx_cut (lx_if (S := (it eD)) (lt_cmp (lc_gt (lx_len lm_ow.w fa.z_len (lo_var 16 rfl) (fun _ => rfl)) (fun p754 => lx_int)) (nomark _)) (fun p755 => (lx_tup (la_cons lx_str (fun p756 => (la_cons (lx_ix lm_ow.w (lo_var 16 rfl) (fun p757 => lx_int) (fun _ _ => rfl)) (fun p759 => la_nil)))) eD (fun a : Str × (Int × Int) × Unit => PyData.tuple [eS.enc a.1, (eT2 eI eI).enc a.2.1]) (fun a => [eS.enc a.1, (eT2 eI eI).enc a.2.1]) (fun _ => (.cons (.cons .nil))) (fun _ => rfl))) (fun p755 => (lx_cut (lx_if (S := (it eD)) (lt_cmp (lc_gt (lx_len lm_ow.w fa.z_len (lo_var 17 rfl) (fun _ => rfl)) (fun p760 => lx_int)) (nomark _)) (fun p761 => (lx_tup (la_cons lx_str (fun p762 => (la_cons (lx_ix lm_ow.w (lo_var 17 rfl) (fun p763 => lx_int) (fun _ _ => rfl)) (fun p765 => la_nil)))) eD (fun a : Str × (Int × Int) × Unit => PyData.tuple [eS.enc a.1, (eT2 eI eI).enc a.2.1]) (fun a => [eS.enc a.1, (eT2 eI eI).enc a.2.1]) (fun _ => (.cons (.cons .nil))) (fun _ => rfl))) (fun p761 => (lx_tup (la_cons lx_str (fun p766 => la_nil)) eD (fun a : Str × Unit => PyData.tuple [eS.enc a.1]) (fun a => [eS.enc a.1]) (fun _ => (.cons .nil)) (fun _ => rfl))) (fun p761 _ => Sub.refl _) (fun p761 _ => Sub.refl _)) (fun _ => rfl))) (fun p755 _ => Sub.refl _) (fun p755 _ => Sub.refl _)) (fun _ => rfl)) (fun v_due_769 p770 => (lb_ifr (lt_cut (lt_w (lw_or (lt_cmp (lc_neT hu dv_it (dv_ls dv_it) (dtL (dtL (dtT2 dtI dtI))) (evL (evL (evT2 evI evI))) (lo_of (lx_call (ok_rest_of fa) (hr.mono (by decide)) fa.g_rest_of fa.F_rest_of.kp fa.b_rest_of (fun _ => (.cons cp_it (.cons cp_it .nil))) (la_cons (lx_var 2 cp_it rfl) (fun p771 => (la_cons (lx_var 5 cp_it rfl) (fun p772 => la_nil)))))) (fun p774 => (lo_var 15 rfl)) (fun _ _ => trivial) (fun _ _ => rfl)) (nomark _)) (fun p775 => (lw_or (lt_cmp (lc_neC hu dv_it dv_it (lo_of (lx_call (ok_verdict fa) (hr.mono (by decide)) fa.g_verdict fa.F_verdict.kp fa.b_verdict (fun _ => (.cons cp_it (.cons cp_it (.cons cp_it .nil)))) (la_cons (lx_var 2 cp_it rfl) (fun p776 => (la_cons (lx_var 5 cp_it rfl) (fun p777 => (la_cons (lx_var 8 cp_it rfl) (fun p778 => la_nil)))))))) (fun p780 => (lo_of (lx_var 18 cp_it rfl))) (fun _ _ => trivial) (fun _ _ => trivial)) (nomark _)) (fun p781 => (lw_or1 (lt_cmp (lc_neS (lx_repr hgd hu dv_it fa.z_repr (lo_of (lx_tup (la_cons (lx_var 2 cp_it rfl) (fun p782 => (la_cons (lx_var 5 cp_it rfl) (fun p783 => (la_cons (lx_var 8 cp_it rfl) (fun p784 => la_nil)))))) (eT3 (eL (eL (eT2 eI eI))) (eL (eL eI)) (eL (eL (eT2 eI eI)))) (fun a : (List (List (Int × Int))) × (List (List Int)) × (List (List (Int × Int))) × Unit => (a.1, a.2.1, a.2.2.1)) (fun a => [(eL (eL (eT2 eI eI))).enc a.1, (eL (eL eI)).enc a.2.1, (eL (eL (eT2 eI eI))).enc a.2.2.1]) (fun _ => (.cons (.cons (.cons .nil)))) (fun _ => rfl))) (fun _ => trivial)) (fun p786 => (lx_var 14 cp_it rfl))) (nomark _)))) (fun p781 _ => Sub.refl _))) (fun p775 _ => Sub.refl _))) (fun _ => rfl)) (fun p788 => (lb_ret lx_bl (fun _ => ()) (fun p => (.drop (.drop (.drop (.drop (.drop (.drop (.keep (.keep (.drop (.keep (.keep (.keep (.keep (.keep (.drop (.drop (.drop (.drop (.drop (.keep (.keep (.keep (.keep (.keep (.keep (.keep (.keep (.keep (.keep Sub.nil)))))))))))))))))))))))))))))))) (fun p788 => (lb_parS 7 19 nd rfl (la_cons (lx_ix lm_sh.w (lo_of (lx_var 4 cp_it rfl)) (fun p789 => (lx_callI 1 (ok__law_take fa) (hr.mono (by decide)) fa.g__law_take fa.F__law_take.kp fa.b__law_take (fun _ => (.cons cp_it .nil)) rfl (la_cons (lx_len lm_sh.w fa.z_len (lo_of (lx_var 4 cp_it rfl)) (fun _ => trivial)) (fun p790 => la_nil)) (fun _ => rfl))) (fun _ _ => trivial)) (fun p793 => (la_cons (lx_ix lm_sh.w (lo_of (lx_var 4 cp_it rfl)) (fun p794 => (lx_callI 1 (ok__law_take fa) (hr.mono (by decide)) fa.g__law_take fa.F__law_take.kp fa.b__law_take (fun _ => (.cons cp_it .nil)) rfl (la_cons (lx_len lm_sh.w fa.z_len (lo_of (lx_var 4 cp_it rfl)) (fun _ => trivial)) (fun p795 => la_nil)) (fun _ => rfl))) (fun _ _ => trivial)) (fun p798 => la_nil)))) (fun _ => rfl) (fun x800 y801 p799 => (lb_set 20 nd (lx_call (ok__law_lot fa fu) (hr.mono (by decide)) fa.g__law_lot fa.F__law_lot.kp fa.b__law_lot (fun _ => (.cons cp_it (.cons cp_it .nil))) (la_cons (lx_sh (fz_ls fz_it) (lx_lc (envT := (fun t803 : Unit => [.st none (List Int) scr a_script, .st none TSt stT p799.2.1.2.2, .st none (List (List (Int × Int))) (it (eL (eL (eT2 eI eI)))) x516.1, .st none Int (it eI) x516.2, .st none (List (Int × Int)) (it (eL (eT2 eI eI))) v_cells_520, .st none (List (List Int)) (it (eL (eL eI))) v_depths_546, .un, .st none (Int × Int) (it (eT2 eI eI)) x800, .st none (List (List (Int × Int))) (it (eL (eL (eT2 eI eI)))) t641.2, .un, .un, .un, .un, .un, .st none Str (it eS) v_kept_646, .st none (List (List (Int × Int))) (it (eL (eL (eT2 eI eI)))) v_rest_688, .st none (List (Int × Int)) (ls (it (eT2 eI eI))) v_spoilt_720, .st none (List (Int × Int)) (ls (it (eT2 eI eI))) v_unsure_752, .st none PyData (it eD) v_due_769, .st none (Int × Int) (it (eT2 eI eI)) y801, .un, .un, .un, .un, .un, .un, .un, .un, .un])) rfl nd (blkOk_by (N := n_law) (sc := defScope s_law) (own := [("row", 6)]) (by decide +kernel)) (li_list lm_sh.w (lx_frz 15 (fz_ls fz_it) rfl)) (fun p802 => ()) (fun p802 => (Sub.refl _)) (by intro t i s hm he; simp at hm; subst hm; (have e := Option.some.inj he; exact e.symm)) (fun _ _ _ _ _ t803 => (lg_name 6 nd)) (fun _ _ _ _ _ t803 x804 => ltl_nil) (fun _ _ _ _ _ t803 x804 p805 => (lx_sh (fz_ls fz_it) (lx_lc (envT := (fun t807 : Unit => [.st none (List Int) scr a_script, .st none TSt stT p799.2.1.2.2, .st none (List (List (Int × Int))) (it (eL (eL (eT2 eI eI)))) x516.1, .st none Int (it eI) x516.2, .st none (List (Int × Int)) (it (eL (eT2 eI eI))) v_cells_520, .st none (List (List Int)) (it (eL (eL eI))) v_depths_546, .st none (List (Int × Int)) (it (eL (eT2 eI eI))) x804, .st none (Int × Int) (it (eT2 eI eI)) x800, .st none (List (List (Int × Int))) (it (eL (eL (eT2 eI eI)))) t641.2, .un, .un, .un, .un, .un, .st none Str (it eS) v_kept_646, .st none (List (List (Int × Int))) (it (eL (eL (eT2 eI eI)))) v_rest_688, .st none (List (Int × Int)) (ls (it (eT2 eI eI))) v_spoilt_720, .st none (List (Int × Int)) (ls (it (eT2 eI eI))) v_unsure_752, .st none PyData (it eD) v_due_769, .st none (Int × Int) (it (eT2 eI eI)) y801, .un, .un, .un, .un, .un, .un, .un, .un, .un])) rfl nd (blkOk_by (own := [("pair", 21)]) (by rfl)) (li_list lm_sh.w (lx_var 6 cp_it rfl)) (fun p806 => ()) (fun p806 => (Sub.refl _)) (by intro t i s hm he; simp at hm; subst hm; (have e := Option.some.inj he; exact e.symm)) (fun _ _ _ _ _ t807 => (lg_name 21 nd)) (fun _ _ _ _ _ t807 x808 => ltl_nil) (fun _ _ _ _ _ t807 x808 p809 => (lx_part part2_0 (lx_var 21 cp_it rfl))) (fun t807 x808 p809 p810 => ()) (fun t807 x808 p809 p810 => by exact (.keep (.keep (.keep (.keep (.keep (.keep (.keep (.keep (.keep (.keep (.keep (.keep (.keep (.keep (.keep (.keep (.keep (.keep (.keep (.keep (.keep (.drop (.keep (.keep (.keep (.keep (.keep (.keep (.keep Sub.nil)))))))))))))))))))))))))))))) (fun t807 x808 p809 => ()) (fun t807 x808 p809 => by exact (.keep (.keep (.keep (.keep (.keep (.keep (.keep (.keep (.keep (.keep (.keep (.keep (.keep (.keep (.keep (.keep (.keep (.keep (.keep (.keep (.keep (.drop (.keep (.keep (.keep (.keep (.keep (.keep (.keep Sub.nil))))))))))))))))))))))))))))))))) (fun t803 x804 p805 p814 => ()) (fun t803 x804 p805 p814 => by exact (.keep (.keep (.keep (.keep (.keep (.keep (.drop (.keep (.keep (.keep (.keep (.keep (.keep (.keep (.keep (.keep (.keep (.keep (.keep (.keep (.keep (.keep (.keep (.keep (.keep (.keep (.keep (.keep (.keep Sub.nil)))))))))))))))))))))))))))))) (fun t803 x804 p805 => ()) (fun t803 x804 p805 => by exact (.keep (.keep (.keep (.keep (.keep (.keep (.drop (.keep (.keep (.keep (.keep (.keep (.keep (.keep (.keep (.keep (.keep (.keep (.keep (.keep (.keep (.keep (.keep (.keep (.keep (.keep (.keep (.keep (.keep Sub.nil)))))))))))))))))))))))))))))))) (fun p818 => (la_cons (lx_var 7 cp_it rfl) (fun p819 => la_nil))))) (fun v_sure_821 p822 => (lb_set 22 nd (lx_call (ok__law_lot fa fu) (hr.mono (by decide)) fa.g__law_lot fa.F__law_lot.kp fa.b__law_lot (fun _ => (.cons cp_it (.cons cp_it .nil))) (la_cons (lx_sh (fz_ls fz_it) (lx_lc (envT := (fun t824 : Unit => [.st none (List Int) scr a_script, .st none TSt stT p799.2.1.2.2, .st none (List (List (Int × Int))) (it (eL (eL (eT2 eI eI)))) x516.1, .st none Int (it eI) x516.2, .st none (List (Int × Int)) (it (eL (eT2 eI eI))) v_cells_520, .st none (List (List Int)) (it (eL (eL eI))) v_depths_546, .un, .st none (Int × Int) (it (eT2 eI eI)) x800, .st none (List (List (Int × Int))) (it (eL (eL (eT2 eI eI)))) t641.2, .un, .un, .un, .un, .un, .st none Str (it eS) v_kept_646, .st none (List (List (Int × Int))) (it (eL (eL (eT2 eI eI)))) v_rest_688, .st none (List (Int × Int)) (ls (it (eT2 eI eI))) v_spoilt_720, .st none (List (Int × Int)) (ls (it (eT2 eI eI))) v_unsure_752, .st none PyData (it eD) v_due_769, .st none (Int × Int) (it (eT2 eI eI)) y801, .st none (List (Int × Int)) (it (eL (eT2 eI eI))) v_sure_821, .un, .un, .un, .un, .un, .un, .un, .un])) rfl nd (blkOk_by (N := n_law) (sc := defScope s_law) (own := [("row", 6)]) (by decide +kernel)) (li_list lm_sh.w (lx_var 15 cp_it rfl)) (fun p823 => ()) (fun p823 => (Sub.refl _)) (by intro t i s hm he; simp at hm; subst hm; (have e := Option.some.inj he; exact e.symm)) (fun _ _ _ _ _ t824 => (lg_name 6 nd)) (fun _ _ _ _ _ t824 x825 => ltl_nil) (fun _ _ _ _ _ t824 x825 p826 => (lx_sh (fz_ls fz_it) (lx_lc (envT := (fun t828 : Unit => [.st none (List Int) scr a_script, .st none TSt stT p799.2.1.2.2, .st none (List (List (Int × Int))) (it (eL (eL (eT2 eI eI)))) x516.1, .st none Int (it eI) x516.2, .st none (List (Int × Int)) (it (eL (eT2 eI eI))) v_cells_520, .st none (List (List Int)) (it (eL (eL eI))) v_depths_546, .st none (List (Int × Int)) (it (eL (eT2 eI eI))) x825, .st none (Int × Int) (it (eT2 eI eI)) x800, .st none (List (List (Int × Int))) (it (eL (eL (eT2 eI eI)))) t641.2, .un, .un, .un, .un, .un, .st none Str (it eS) v_kept_646, .st none (List (List (Int × Int))) (it (eL (eL (eT2 eI eI)))) v_rest_688, .st none (List (Int × Int)) (ls (it (eT2 eI eI))) v_spoilt_720, .st none (List (Int × Int)) (ls (it (eT2 eI eI))) v_unsure_752, .st none PyData (it eD) v_due_769, .st none (Int × Int) (it (eT2 eI eI)) y801, .st none (List (Int × Int)) (it (eL (eT2 eI eI))) v_sure_821, .un, .un, .un, .un, .un, .un, .un, .un])) rfl nd (blkOk_by (own := [("pair", 21)]) (by rfl)) (li_list lm_sh.w (lx_var 6 cp_it rfl)) (fun p827 => ()) (fun p827 => (Sub.refl _)) (by intro t i s hm he; simp at hm; subst hm; (have e := Option.some.inj he; exact e.symm)) (fun _ _ _ _ _ t828 => (lg_name 21 nd)) (fun _ _ _ _ _ t828 x829 => ltl_nil) (fun _ _ _ _ _ t828 x829 p830 => (lx_part part2_1 (lx_var 21 cp_it rfl))) (fun t828 x829 p830 p831 => ()) (fun t828 x829 p830 p831 => by exact (.keep (.keep (.keep (.keep (.keep (.keep (.keep (.keep (.keep (.keep (.keep (.keep (.keep (.keep (.keep (.keep (.keep (.keep (.keep (.keep (.keep (.drop (.keep (.keep (.keep (.keep (.keep (.keep (.keep Sub.nil)))))))))))))))))))))))))))))) (fun t828 x829 p830 => ()) (fun t828 x829 p830 => by exact (.keep (.keep (.keep (.keep (.keep (.keep (.keep (.keep (.keep (.keep (.keep (.keep (.keep (.keep (.keep (.keep (.keep (.keep (.keep (.keep (.keep (.drop (.keep (.keep (.keep (.keep (.keep (.keep (.keep Sub.nil))))))))))))))))))))))))))))))))) (fun t824 x825 p826 p835 => ()) (fun t824 x825 p826 p835 => by exact (.keep (.keep (.keep (.keep (.keep (.keep (.drop (.keep (.keep (.keep (.keep (.keep (.keep (.keep (.keep (.keep (.keep (.keep (.keep (.keep (.keep (.keep (.keep (.keep (.keep (.keep (.keep (.keep (.keep Sub.nil)))))))))))))))))))))))))))))) (fun t824 x825 p826 => ()) (fun t824 x825 p826 => by exact (.keep (.keep (.keep (.keep (.keep (.keep (.drop (.keep (.keep (.keep (.keep (.keep (.keep (.keep (.keep (.keep (.keep (.keep (.keep (.keep (.keep (.keep (.keep (.keep (.keep (.keep (.keep (.keep (.keep Sub.nil)))))))))))))))))))))))))))))))) (fun p839 => (la_cons (lx_var 7 cp_it rfl) (fun p840 => la_nil))))) (fun v_perhaps_842 p843 => (lb_set 23 nd (lx_call (ok_hangs fa fu) (hr.mono (by decide)) fa.g_hangs fa.F_hangs.kp fa.b_hangs (fun _ => (.cons cp_it (.cons cp_it (.cons cp_it (.cons cp_it .nil))))) (la_cons (lx_var 2 cp_it rfl) (fun p844 => (la_cons (lx_var 5 cp_it rfl) (fun p845 => (la_cons (lx_var 7 cp_it rfl) (fun p846 => (la_cons (lx_var 19 cp_it rfl) (fun p847 => la_nil))))))))) (fun v_told_849 p850 => (lb_ifr (lt_cmp (lc_neC hu dv_it dv_it (lo_of (lx_var 23 cp_it rfl)) (fun p851 => (lo_of (lx_cut (lx_if (S := (it eD)) (lt_cmp (lc_inT hu5 dv_it dv_it (dtT2 dtI dtI) (evT2 evI evI) (lo_of (lx_var 19 cp_it rfl)) (fun p852 => (lo_of (lx_var 20 cp_it rfl))) (fun _ _ => trivial) (fun _ _ => trivial)) (by rfl)) (fun p853 => (lx_tup (la_cons lx_str (fun p854 => (la_cons (lx_var 20 cp_it rfl) (fun p855 => la_nil)))) eD (fun a : Str × (List (Int × Int)) × Unit => PyData.tuple [eS.enc a.1, (eL (eT2 eI eI)).enc a.2.1]) (fun a => [eS.enc a.1, (eL (eT2 eI eI)).enc a.2.1]) (fun _ => (.cons (.cons .nil))) (fun _ => rfl))) (fun p853 => (lx_cut (lx_if (S := (it eD)) (lt_cmp (lc_inT hu5 dv_it dv_it (dtT2 dtI dtI) (evT2 evI evI) (lo_of (lx_var 19 cp_it rfl)) (fun p856 => (lo_of (lx_var 22 cp_it rfl))) (fun _ _ => trivial) (fun _ _ => trivial)) (by rfl)) (fun p857 => (lx_tup (la_cons lx_str (fun p858 => (la_cons (lx_var 20 cp_it rfl) (fun p859 => (la_cons (lx_var 22 cp_it rfl) (fun p860 => la_nil)))))) eD (fun a : Str × (List (Int × Int)) × (List (Int × Int)) × Unit => PyData.tuple [eS.enc a.1, (eL (eT2 eI eI)).enc a.2.1, (eL (eT2 eI eI)).enc a.2.2.1]) (fun a => [eS.enc a.1, (eL (eT2 eI eI)).enc a.2.1, (eL (eT2 eI eI)).enc a.2.2.1]) (fun _ => (.cons (.cons (.cons .nil)))) (fun _ => rfl))) (fun p857 => (lx_tup (la_cons lx_str (fun p861 => (la_cons (lx_var 22 cp_it rfl) (fun p862 => la_nil)))) eD (fun a : Str × (List (Int × Int)) × Unit => PyData.tuple [eS.enc a.1, (eL (eT2 eI eI)).enc a.2.1]) (fun a => [eS.enc a.1, (eL (eT2 eI eI)).enc a.2.1]) (fun _ => (.cons (.cons .nil))) (fun _ => rfl))) (fun p857 _ => Sub.refl _) (fun p857 _ => Sub.refl _)) (fun _ => rfl))) (fun p853 _ => Sub.refl _) (fun p853 _ => Sub.refl _)) (fun _ => rfl)))) (fun _ _ => trivial) (fun _ _ => trivial)) (nomark _)) (fun p865 => (lb_ret lx_bl (fun _ => ()) (fun p => (.drop (.drop (.drop (.drop (.drop (.drop (.keep (.drop (.drop (.keep (.keep (.keep (.keep (.keep (.drop (.drop (.drop (.drop (.drop (.drop (.drop (.keep (.drop (.drop (.keep (.keep (.keep (.keep (.keep Sub.nil)))))))))))))))))))))))))))))))) (fun p865 => (lb_for (envT := (fun t867 : TSt => [.st none (List Int) scr a_script, .st none TSt stT t867, .st none (List (List (Int × Int))) (it (eL (eL (eT2 eI eI)))) x516.1, .st none Int (it eI) x516.2, .st none (List (Int × Int)) (it (eL (eT2 eI eI))) v_cells_520, .st none (List (List Int)) (it (eL (eL eI))) v_depths_546, .un, .st none (Int × Int) (it (eT2 eI eI)) x800, .st none (List (List (Int × Int))) (it (eL (eL (eT2 eI eI)))) t641.2, .un, .un, .un, .un, .un, .st none Str (it eS) v_kept_646, .st none (List (List (Int × Int))) (it (eL (eL (eT2 eI eI)))) v_rest_688, .st none (List (Int × Int)) (ls (it (eT2 eI eI))) v_spoilt_720, .st none (List (Int × Int)) (ls (it (eT2 eI eI))) v_unsure_752, .st none PyData (it eD) v_due_769, .st none (Int × Int) (it (eT2 eI eI)) y801, .st none (List (Int × Int)) (it (eL (eT2 eI eI))) v_sure_821, .un, .st none (List (Int × Int)) (it (eL (eT2 eI eI))) v_perhaps_842, .st none PyData (it eD) v_told_849, .un, .un, .un, .un, .un])) PassesOwn.never rfl (li_range1 (by rfl) fa.z_range lx_int) (fun p866 => p799.2.1.2.2) (fun p866 => (Sub.refl _)) (fun t867 => (lg_name 24 nd)) (fun x868 t867 kc869 kb870 => (lb_set 25 nd (lx_lc (envT := (fun t872 : TSt => [.st none (List Int) scr a_script, .st none TSt stT t872, .st none (List (List (Int × Int))) (it (eL (eL (eT2 eI eI)))) x516.1, .st none Int (it eI) x516.2, .st none (List (Int × Int)) (it (eL (eT2 eI eI))) v_cells_520, .st none (List (List Int)) (it (eL (eL eI))) v_depths_546, .un, .st none (Int × Int) (it (eT2 eI eI)) x800, .st none (List (List (Int × Int))) (it (eL (eL (eT2 eI eI)))) t641.2, .un, .un, .un, .un, .un, .st none Str (it eS) v_kept_646, .st none (List (List (Int × Int))) (it (eL (eL (eT2 eI eI)))) v_rest_688, .st none (List (Int × Int)) (ls (it (eT2 eI eI))) v_spoilt_720, .st none (List (Int × Int)) (ls (it (eT2 eI eI))) v_unsure_752, .st none PyData (it eD) v_due_769, .st none (Int × Int) (it (eT2 eI eI)) y801, .st none (List (Int × Int)) (it (eL (eT2 eI eI))) v_sure_821, .un, .st none (List (Int × Int)) (it (eL (eT2 eI eI))) v_perhaps_842, .st none PyData (it eD) v_told_849, .st none Int (it eI) x868, .un, .un, .un, .un])) rfl nd (blkOk_by (N := n_law) (sc := defScope s_law) (own := [("row", 6)]) (by decide +kernel)) (li_list lm_sh.w (lx_var 2 cp_it rfl)) (fun p871 => t867) (fun p871 => (Sub.refl _)) (by intro t i s hm he; simp at hm; subst hm; (have e := Option.some.inj he; exact e.symm)) (fun _ _ _ _ _ t872 => (lg_name 6 nd)) (fun _ _ _ _ _ t872 x873 => ltl_nil) (fun _ _ _ _ _ t872 x873 p874 => (lx_sh (fz_ls fz_it) (lx_lc (envT := (fun t876 : TSt => [.st none (List Int) scr a_script, .st none TSt stT t876, .st none (List (List (Int × Int))) (it (eL (eL (eT2 eI eI)))) x516.1, .st none Int (it eI) x516.2, .st none (List (Int × Int)) (it (eL (eT2 eI eI))) v_cells_520, .st none (List (List Int)) (it (eL (eL eI))) v_depths_546, .st none (List (Int × Int)) (it (eL (eT2 eI eI))) x873, .st none (Int × Int) (it (eT2 eI eI)) x800, .st none (List (List (Int × Int))) (it (eL (eL (eT2 eI eI)))) t641.2, .un, .un, .un, .un, .un, .st none Str (it eS) v_kept_646, .st none (List (List (Int × Int))) (it (eL (eL (eT2 eI eI)))) v_rest_688, .st none (List (Int × Int)) (ls (it (eT2 eI eI))) v_spoilt_720, .st none (List (Int × Int)) (ls (it (eT2 eI eI))) v_unsure_752, .st none PyData (it eD) v_due_769, .st none (Int × Int) (it (eT2 eI eI)) y801, .st none (List (Int × Int)) (it (eL (eT2 eI eI))) v_sure_821, .un, .st none (List (Int × Int)) (it (eL (eT2 eI eI))) v_perhaps_842, .st none PyData (it eD) v_told_849, .st none Int (it eI) x868, .un, .un, .un, .un])) rfl nd (blkOk_by (own := [("low", 11), ("high", 12)]) (by rfl)) (li_list lm_sh.w (lx_var 6 cp_it rfl)) (fun p875 => t872) (fun p875 => (Sub.refl _)) (by intro t i s hm he; simp at hm; rcases hm with rfl | rfl <;> (have e := Option.some.inj he; exact e.symm)) (fun _ _ _ _ _ t876 => (lg_tup (E := (eT2 eI eI)) (lgs_cons (lg_name 11 nd) (fun _ => (lgs_cons (lg_name 12 nd) (fun _ => lgs_nil)))) (fun x => (x.1, x.2, ())) (fun a : Int × Int × Unit => [eI.enc (a.1), eI.enc (a.2.1)]) (fun _ => (.cons (.cons .nil))) (fun _ => rfl) rfl (fun _ => rfl))) (fun _ _ _ _ _ t876 x877 => ltl_nil) (fun _ _ _ _ _ t876 x877 p878 => (lx_ix lm_ow.w (lo_of (lx_list (la_cons (lx_var 11 cp_it rfl) (fun p879 => (la_cons (lx_var 12 cp_it rfl) (fun p880 => (la_cons (lx_add (lx_var 11 cp_it rfl) (fun p881 => (lx_callI 1 (ok__law_take fa) (hr.mono (by decide)) fa.g__law_take fa.F__law_take.kp fa.b__law_take (fun _ => (.cons cp_it .nil)) rfl (la_cons (lx_add (lx_sub (lx_var 12 cp_it rfl) (fun p883 => (lx_var 11 cp_it rfl))) (fun p884 => lx_int)) (fun p885 => la_nil)) (fun _ => rfl)))) (fun p887 => la_nil)))))) eI (fun a : Int × Int × Int × Unit => [a.1, a.2.1, a.2.2.1]) (fun _ => (.cons (.cons (.cons .nil)))))) (fun p888 => (lx_min2 rfl fa.z_min (lx_var 24 cp_it rfl) (fun p889 => lx_int))) (fun _ _ => trivial))) (fun t876 x877 p878 p891 => p891.1.2.2.1.2.2) (fun t876 x877 p878 p891 => by exact (.keep (.keep (.keep (.keep (.keep (.keep (.keep (.keep (.keep (.keep (.keep (.drop (.drop (.keep (.keep (.keep (.keep (.keep (.keep (.keep (.keep (.keep (.keep (.keep (.keep (.keep (.keep (.keep (.keep Sub.nil)))))))))))))))))))))))))))))) (fun t876 x877 p878 => t876) (fun t876 x877 p878 => by exact (.keep (.keep (.keep (.keep (.keep (.keep (.keep (.keep (.keep (.keep (.keep (.drop (.drop (.keep (.keep (.keep (.keep (.keep (.keep (.keep (.keep (.keep (.keep (.keep (.keep (.keep (.keep (.keep (.keep Sub.nil))))))))))))))))))))))))))))))))) (fun t872 x873 p874 p895 => p895) (fun t872 x873 p874 p895 => by exact (.keep (.keep (.keep (.keep (.keep (.keep (.drop (.keep (.keep (.keep (.keep (.keep (.keep (.keep (.keep (.keep (.keep (.keep (.keep (.keep (.keep (.keep (.keep (.keep (.keep (.keep (.keep (.keep (.keep Sub.nil)))))))))))))))))))))))))))))) (fun t872 x873 p874 => t872) (fun t872 x873 p874 => by exact (.keep (.keep (.keep (.keep (.keep (.keep (.drop (.keep (.keep (.keep (.keep (.keep (.keep (.keep (.keep (.keep (.keep (.keep (.keep (.keep (.keep (.keep (.keep (.keep (.keep (.keep (.keep (.keep (.keep Sub.nil))))))))))))))))))))))))))))))) (fun v_plate_899 p900 => (lb_set 26 nd (lx_lc (envT := (fun t902 : Unit => [.st none (List Int) scr a_script, .st none TSt stT p900, .st none (List (List (Int × Int))) (it (eL (eL (eT2 eI eI)))) x516.1, .st none Int (it eI) x516.2, .st none (List (Int × Int)) (it (eL (eT2 eI eI))) v_cells_520, .st none (List (List Int)) (it (eL (eL eI))) v_depths_546, .un, .st none (Int × Int) (it (eT2 eI eI)) x800, .st none (List (List (Int × Int))) (it (eL (eL (eT2 eI eI)))) t641.2, .un, .un, .un, .un, .un, .st none Str (it eS) v_kept_646, .st none (List (List (Int × Int))) (it (eL (eL (eT2 eI eI)))) v_rest_688, .st none (List (Int × Int)) (ls (it (eT2 eI eI))) v_spoilt_720, .st none (List (Int × Int)) (ls (it (eT2 eI eI))) v_unsure_752, .st none PyData (it eD) v_due_769, .st none (Int × Int) (it (eT2 eI eI)) y801, .st none (List (Int × Int)) (it (eL (eT2 eI eI))) v_sure_821, .un, .st none (List (Int × Int)) (it (eL (eT2 eI eI))) v_perhaps_842, .st none PyData (it eD) v_told_849, .st none Int (it eI) x868, .st none (List (List Int)) (ls (it (eL eI))) v_plate_899, .un, .un, .un])) rfl nd (blkOk_by (N := n_law) (sc := defScope s_law) (own := [("y", 9)]) (by decide +kernel)) (li_range1 (by rfl) fa.z_range (lx_len lm_ow.w fa.z_len (lo_var 25 rfl) (fun _ => rfl))) (fun p901 => ()) (fun p901 => (Sub.refl _)) (by intro t i s hm he; simp at hm; subst hm; (have e := Option.some.inj he; exact e.symm)) (fun _ _ _ _ _ t902 => (lg_name 9 nd)) (fun _ _ _ _ _ t902 x903 => ltl_nil) (fun _ _ _ _ _ t902 x903 p904 => (lx_sh (fz_ls fz_it) (lx_lc (envT := (fun t908 : Unit => [.st none (List Int) scr a_script, .st none TSt stT p900, .st none (List (List (Int × Int))) (it (eL (eL (eT2 eI eI)))) x516.1, .st none Int (it eI) x516.2, .st none (List (Int × Int)) (it (eL (eT2 eI eI))) v_cells_520, .st none (List (List Int)) (it (eL (eL eI))) v_depths_546, .un, .st none (Int × Int) (it (eT2 eI eI)) x800, .st none (List (List (Int × Int))) (it (eL (eL (eT2 eI eI)))) t641.2, .st none Int (it eI) x903, .un, .un, .un, .un, .st none Str (it eS) v_kept_646, .st none (List (List (Int × Int))) (it (eL (eL (eT2 eI eI)))) v_rest_688, .st none (List (Int × Int)) (ls (it (eT2 eI eI))) v_spoilt_720, .st none (List (Int × Int)) (ls (it (eT2 eI eI))) v_unsure_752, .st none PyData (it eD) v_due_769, .st none (Int × Int) (it (eT2 eI eI)) y801, .st none (List (Int × Int)) (it (eL (eT2 eI eI))) v_sure_821, .un, .st none (List (Int × Int)) (it (eL (eT2 eI eI))) v_perhaps_842, .st none PyData (it eD) v_told_849, .st none Int (it eI) x868, .st none (List (List Int)) (ls (it (eL eI))) v_plate_899, .un, .un, .un])) rfl nd (blkOk_by (own := [("x", 10)]) (by rfl)) (li_range1 (by rfl) fa.z_range (lx_len lm_sh.w fa.z_len (lo_of (lx_ix lm_ow.w (lo_var 25 rfl) (fun p905 => lx_int) (fun _ _ => rfl))) (fun _ => trivial))) (fun p907 => ()) (fun p907 => (Sub.refl _)) (by intro t i s hm he; simp at hm; subst hm; (have e := Option.some.inj he; exact e.symm)) (fun _ _ _ _ _ t908 => (lg_name 10 nd)) (fun _ _ _ _ _ t908 x909 => ltl_nil) (fun _ _ _ _ _ t908 x909 p910 => (lx_max2 rfl fa.z_max lx_int (fun p911 => (lx_sub (lx_ix lm_sh.w (lo_of (lx_ix lm_ow.w (lo_var 25 rfl) (fun p912 => (lx_var 9 cp_it rfl)) (fun _ _ => rfl))) (fun p914 => (lx_var 10 cp_it rfl)) (fun _ _ => trivial)) (fun p916 => (lx_ix lm_sh.w (lo_of (lx_ix lm_sh.w (lo_of (lx_var 5 cp_it rfl)) (fun p917 => (lx_var 9 cp_it rfl)) (fun _ _ => trivial))) (fun p919 => (lx_var 10 cp_it rfl)) (fun _ _ => trivial))))))) (fun t908 x909 p910 p921 => ()) (fun t908 x909 p910 p921 => by exact (.keep (.keep (.keep (.keep (.keep (.keep (.keep (.keep (.keep (.keep (.drop (.keep (.keep (.keep (.keep (.keep (.keep (.keep (.keep (.keep (.keep (.keep (.keep (.keep (.keep (.keep (.keep (.keep (.keep Sub.nil)))))))))))))))))))))))))))))) (fun t908 x909 p910 => ()) (fun t908 x909 p910 => by exact (.keep (.keep (.keep (.keep (.keep (.keep (.keep (.keep (.keep (.keep (.drop (.keep (.keep (.keep (.keep (.keep (.keep (.keep (.keep (.keep (.keep (.keep (.keep (.keep (.keep (.keep (.keep (.keep (.keep Sub.nil))))))))))))))))))))))))))))))))) (fun t902 x903 p904 p925 => ()) (fun t902 x903 p904 p925 => by exact (.keep (.keep (.keep (.keep (.keep (.keep (.keep (.keep (.keep (.drop (.keep (.keep (.keep (.keep (.keep (.keep (.keep (.keep (.keep (.keep (.keep (.keep (.keep (.keep (.keep (.keep (.keep (.keep (.keep Sub.nil)))))))))))))))))))))))))))))) (fun t902 x903 p904 => ()) (fun t902 x903 p904 => by exact (.keep (.keep (.keep (.keep (.keep (.keep (.keep (.keep (.keep (.drop (.keep (.keep (.keep (.keep (.keep (.keep (.keep (.keep (.keep (.keep (.keep (.keep (.keep (.keep (.keep (.keep (.keep (.keep (.keep Sub.nil))))))))))))))))))))))))))))))) (fun v_left_929 p930 => (lb_set 27 nd (lx_cmp (lc_eqI (lx_len lm_ow.w fa.z_len (lo_of (lx_lc (envT := (fun t932 : Unit => [.st none (List Int) scr a_script, .st none TSt stT p900, .st none (List (List (Int × Int))) (it (eL (eL (eT2 eI eI)))) x516.1, .st none Int (it eI) x516.2, .st none (List (Int × Int)) (it (eL (eT2 eI eI))) v_cells_520, .st none (List (List Int)) (it (eL (eL eI))) v_depths_546, .un, .st none (Int × Int) (it (eT2 eI eI)) x800, .st none (List (List (Int × Int))) (it (eL (eL (eT2 eI eI)))) t641.2, .un, .un, .un, .un, .un, .st none Str (it eS) v_kept_646, .st none (List (List (Int × Int))) (it (eL (eL (eT2 eI eI)))) v_rest_688, .st none (List (Int × Int)) (ls (it (eT2 eI eI))) v_spoilt_720, .st none (List (Int × Int)) (ls (it (eT2 eI eI))) v_unsure_752, .st none PyData (it eD) v_due_769, .st none (Int × Int) (it (eT2 eI eI)) y801, .st none (List (Int × Int)) (it (eL (eT2 eI eI))) v_sure_821, .un, .st none (List (Int × Int)) (it (eL (eT2 eI eI))) v_perhaps_842, .st none PyData (it eD) v_told_849, .st none Int (it eI) x868, .st none (List (List Int)) (ls (it (eL eI))) v_plate_899, .st none (List (List Int)) (ls (it (eL eI))) v_left_929, .un, .un])) rfl nd (blkOk_by (N := n_law) (sc := defScope s_law) (own := [("x", 10), ("y", 9)]) (by decide +kernel)) (li_list lm_sh.w (lx_var 4 cp_it rfl)) (fun p931 => ()) (fun p931 => (Sub.refl _)) (by intro t i s hm he; simp at hm; rcases hm with rfl | rfl <;> (have e := Option.some.inj he; exact e.symm)) (fun _ _ _ _ _ t932 => (lg_tup (E := (eT2 eI eI)) (lgs_cons (lg_name 10 nd) (fun _ => (lgs_cons (lg_name 9 nd) (fun _ => lgs_nil)))) (fun x => (x.1, x.2, ())) (fun a : Int × Int × Unit => [eI.enc (a.1), eI.enc (a.2.1)]) (fun _ => (.cons (.cons .nil))) (fun _ => rfl) rfl (fun _ => rfl))) (fun _ _ _ _ _ t932 x933 => (ltl_one (lt_not (lt_cut (lt_chain coLe coLe (lx_part part2_0 (lx_ix lm_sh.w (lo_of (lx_ix lm_sh.w (lo_of (lx_var 8 cp_it rfl)) (fun p934 => (lx_var 9 cp_it rfl)) (fun _ _ => trivial))) (fun p936 => (lx_var 10 cp_it rfl)) (fun _ _ => trivial))) (fun p938 => (lx_ix lm_sh.w (lo_of (lx_ix lm_ow.w (lo_var 26 rfl) (fun p939 => (lx_var 9 cp_it rfl)) (fun _ _ => rfl))) (fun p941 => (lx_var 10 cp_it rfl)) (fun _ _ => trivial))) (fun p938 p943 => (lx_part part2_1 (lx_ix lm_sh.w (lo_of (lx_ix lm_sh.w (lo_of (lx_var 8 cp_it rfl)) (fun p944 => (lx_var 9 cp_it rfl)) (fun _ _ => trivial))) (fun p946 => (lx_var 10 cp_it rfl)) (fun _ _ => trivial)))) (fun p938 p943 p948 => Sub.refl _)) (fun _ => rfl))))) (fun _ _ _ _ _ t932 x933 p950 => lx_int) (fun t932 x933 p950 p951 => ()) (fun t932 x933 p950 p951 => by exact (.keep (.keep (.keep (.keep (.keep (.keep (.keep (.keep (.keep (.drop (.drop (.keep (.keep (.keep (.keep (.keep (.keep (.keep (.keep (.keep (.keep (.keep (.keep (.keep (.keep (.keep (.keep (.keep (.keep Sub.nil)))))))))))))))))))))))))))))) (fun t932 x933 p950 => ()) (fun t932 x933 p950 => by exact (.keep (.keep (.keep (.keep (.keep (.keep (.keep (.keep (.keep (.drop (.drop (.keep (.keep (.keep (.keep (.keep (.keep (.keep (.keep (.keep (.keep (.keep (.keep (.keep (.keep (.keep (.keep (.keep (.keep Sub.nil)))))))))))))))))))))))))))))))) (fun _ => trivial)) (fun p955 => lx_int)) (nomark _)) (fun v_good_956 p957 => (lb_set 28 nd (lx_cmp (lc_inT hu5 dv_it dv_it (dtT2 dtI dtI) (evT2 evI evI) (lo_of (lx_var 19 cp_it rfl)) (fun p958 => (lo_of (lx_call (ok__law_lot fa fu) (hr.mono (by decide)) fa.g__law_lot fa.F__law_lot.kp fa.b__law_lot (fun _ => (.cons cp_it (.cons cp_it .nil))) (la_cons (lx_frz 26 (fz_ls fz_it) rfl) (fun p959 => (la_cons (lx_var 7 cp_it rfl) (fun p960 => la_nil))))))) (fun _ _ => trivial) (fun _ _ => trivial)) (by rfl)) (fun v_together_962 p963 => (lb_ifr (lt_cut (lt_w (lw_or (lt_cut (lt_w (lw_and (lt_cmp (lc_eqS (lx_dec (E' := eS) dcS (lx_ixD (lx_var 18 cp_it rfl) (fun p967 => lx_int))) (fun p966 => lx_str)) (nomark _)) (fun p970 => (lw_and1 (lt_not (lt_val (lx_var 27 cp_it rfl))))) (fun p970 _ => Sub.refl _))) (fun _ => rfl)) (fun p972 => (lw_or1 (lt_cut (lt_w (lw_and (lt_cmp (lc_eqS (lx_dec (E' := eS) dcS (lx_ixD (lx_var 18 cp_it rfl) (fun p976 => lx_int))) (fun p975 => lx_str)) (nomark _)) (fun p979 => (lw_and1 (lt_val (lx_var 27 cp_it rfl)))) (fun p979 _ => Sub.refl _))) (fun _ => rfl)))) (fun p972 _ => Sub.refl _))) (fun _ => rfl)) (fun p982 => (lb_ret lx_bl (fun _ => ()) (fun p => (.drop (.drop (.drop (.drop (.drop (.drop (.keep (.drop (.drop (.keep (.keep (.keep (.keep (.keep (.drop (.drop (.drop (.drop (.drop (.drop (.drop (.keep (.drop (.drop (.drop (.drop (.drop (.drop (.drop Sub.nil)))))))))))))))))))))))))))))))) (fun p982 => (lb_ifr (lt_cut (lt_w (lw_or (lt_cut (lt_w (lw_and (lt_cmp (lc_eqS (lx_dec (E' := eS) dcS (lx_ixD (lx_var 23 cp_it rfl) (fun p986 => lx_int))) (fun p985 => lx_str)) (nomark _)) (fun p989 => (lw_and1 (lt_not (lt_val (lx_var 28 cp_it rfl))))) (fun p989 _ => Sub.refl _))) (fun _ => rfl)) (fun p991 => (lw_or1 (lt_cut (lt_w (lw_and (lt_cmp (lc_eqS (lx_dec (E' := eS) dcS (lx_ixD (lx_var 23 cp_it rfl) (fun p995 => lx_int))) (fun p994 => lx_str)) (nomark _)) (fun p998 => (lw_and1 (lt_val (lx_var 28 cp_it rfl)))) (fun p998 _ => Sub.refl _))) (fun _ => rfl)))) (fun p991 _ => Sub.refl _))) (fun _ => rfl)) (fun p1001 => (lb_ret lx_bl (fun _ => ()) (fun p => (.drop (.drop (.drop (.drop (.drop (.drop (.keep (.drop (.drop (.keep (.keep (.keep (.keep (.keep (.drop (.drop (.drop (.drop (.drop (.drop (.drop (.keep (.drop (.drop (.drop (.drop (.drop (.drop (.drop Sub.nil)))))))))))))))))))))))))))))))) (fun p1001 => (lb_end p900 (.keep (.keep (.keep (.keep (.keep (.keep (.keep (.keep (.keep (.keep (.keep (.keep (.keep (.keep (.keep (.keep (.keep (.keep (.keep (.keep (.keep (.keep (.keep (.keep (.drop (.drop (.drop (.drop (.drop Sub.nil))))))))))))))))))))))))))))))))))))))))))) (fun t1009 => (lb_ret (lx_cmp (lc_eqS (lx_repr hgd hu dv_it fa.z_repr (lo_of (lx_tup (la_cons (lx_var 2 cp_it rfl) (fun p1010 => (la_cons (lx_var 5 cp_it rfl) (fun p1011 => (la_cons (lx_var 8 cp_it rfl) (fun p1012 => la_nil)))))) (eT3 (eL (eL (eT2 eI eI))) (eL (eL eI)) (eL (eL (eT2 eI eI)))) (fun a : (List (List (Int × Int))) × (List (List Int)) × (List (List (Int × Int))) × Unit => (a.1, a.2.1, a.2.2.1)) (fun a => [(eL (eL (eT2 eI eI))).enc a.1, (eL (eL eI)).enc a.2.1, (eL (eL (eT2 eI eI))).enc a.2.2.1]) (fun _ => (.cons (.cons (.cons .nil)))) (fun _ => rfl))) (fun _ => trivial)) (fun p1014 => (lx_var 14 cp_it rfl))) (nomark _)) (fun _ => ()) (fun p => (.drop (.drop (.drop (.drop (.drop (.drop (.keep (.drop (.drop (.keep (.keep (.keep (.keep (.keep (.drop (.drop (.drop (.drop (.drop (.drop (.drop (.keep (.drop (.drop (.keep (.keep (.keep (.keep (.keep Sub.nil)))))))))))))))))))))))))))))))))))))))))))))))) (sw_true rfl rfl rfl (by decide +kernel)))) (sw_true rfl rfl rfl (by decide +kernel)))))))))))))))))))
    (by first | (unfold m_law; dsimp only [id]; done) | (unfold m_law; dsimp only [id]; rfl) | rfl)
end
/-! ### k51: tables, cells, reach -/
abbrev Cl := Int × Int
structure Rc {α : Type} (T : List (List α)) (w h : Nat) : Prop where
  lh : T.length = h
  lw : ∀ r ∈ T, r.length = w
def gt {α : Type} (d : α) (T : List (List α)) (c : Cl) : α := (T.getD c.2.toNat []).getD c.1.toNat d
def Ins (w h : Nat) (c : Cl) : Prop := 0 ≤ c.1 ∧ c.1 < w ∧ 0 ≤ c.2 ∧ c.2 < h
instance (w h : Nat) (c : Cl) : Decidable (Ins w h c) := inferInstanceAs (Decidable (_ ∧ _))
theorem Rc.row {α : Type} {T : List (List α)} {w h : Nat} (r : Rc T w h) {y : Int} (h0 : 0 ≤ y) (h1 : y < h) : atI T y = some (T.getD y.toNat []) ∧ (T.getD y.toNat []).length = w := by
  obtain ⟨n, rfl⟩ := Int.eq_ofNat_of_zero_le h0
  have hn : n < T.length := by have := r.lh; omega
  have e : T.getD (n : Int).toNat [] = T[n] := by
    rw [List.getD_eq_getElem?_getD, Int.toNat_natCast, List.getElem?_eq_getElem hn]; rfl
  rw [e]
  exact ⟨Z.atI_nat hn, r.lw _ (List.getElem_mem hn)⟩
theorem at_getD {α : Type} {xs : List α} {x : Int} (d : α) (h0 : 0 ≤ x) (h1 : x < xs.length) : atI xs x = some (xs.getD x.toNat d) := by
  obtain ⟨n, rfl⟩ := Int.eq_ofNat_of_zero_le h0
  have hn : n < xs.length := by omega
  rw [Z.atI_nat hn, List.getD_eq_getElem?_getD, Int.toNat_natCast, List.getElem?_eq_getElem hn]; rfl
theorem Rc.at {α : Type} {T : List (List α)} {w h : Nat} (r : Rc T w h) (d : α) {c : Cl} (i : Ins w h c) {Ω : Type} (K : α → Option Ω) : ((atI T c.2).bind fun y => (atI y c.1).bind fun z => K z) = K (gt d T c) := by
  obtain ⟨h0, h1, h2, h3⟩ := i
  obtain ⟨e, l⟩ := r.row h2 h3
  rw [e, Option.bind_some, at_getD d h0 (by omega), Option.bind_some]
  rfl
theorem at_ok {T : List (List Cl)} {w h : Nat} (r : Rc T w h) {c : Cl} (i : Ins w h c) : m_at T c = some (gt (0, 0) T c) := r.at (0, 0) i _
def cellsL (w h : Nat) : List Cl := (rangeL 0 (w : Int)).flatMap fun x => (rangeL 0 (h : Int)).map fun y => (x, y)
theorem mem_cells {w h : Nat} {c : Cl} : c ∈ cellsL w h ↔ Ins w h c := by
  unfold cellsL Ins
  rw [List.mem_flatMap]
  constructor
  · rintro ⟨x, mx, m⟩
    obtain ⟨y, my, rfl⟩ := List.mem_map.1 m
    have a := mem_rng.1 mx
    have b := mem_rng.1 my
    exact ⟨a.1, a.2, b.1, b.2⟩
  · intro m
    exact ⟨c.1, mem_rng.2 ⟨m.1, m.2.1⟩, List.mem_map.2 ⟨c.2, mem_rng.2 ⟨m.2.2.1, m.2.2.2⟩, rfl⟩⟩
theorem cells_len (w h : Nat) : (cellsL w h).length = w * h := by
  unfold cellsL
  rw [List.length_flatMap]
  have : ((rangeL 0 (w : Int)).map fun x => ((rangeL 0 (h : Int)).map fun y => (x, y)).length) = List.replicate w h := by
    rw [List.eq_replicate_iff]
    refine ⟨by rw [List.length_map, rng_len]; omega, fun b m => ?_⟩
    obtain ⟨x, _, rfl⟩ := List.mem_map.1 m
    rw [List.length_map, rng_len]; omega
  rw [this, List.sum_replicate_nat]
theorem lcells_ok {T : List (List PyData)} {w h : Nat} (r : Rc T w h) (h1 : 1 ≤ h) (hw : w ≤ 5) (hh : h ≤ 5) : m__law_cells T = some (cellsL w h) := by
  have hS : (1000000 : Nat) ≤ SZ := by decide
  unfold m__law_cells
  dsimp only
  obtain ⟨e, l⟩ := r.row (y := 0) (by decide) (by omega)
  rw [e, Option.bind_some, l, ck_pos (rgOk_s (by omega) (by omega) (by omega) (by omega))]
  have step : ∀ (i : Nat) (s : List Cl) (x : Int), (rangeL 0 (w : Int))[i]? = some x → (s = ((rangeL 0 (w : Int)).take (0 + i)).flatMap (fun x => (rangeL 0 (h : Int)).map fun y => (x, y)) ∧ s.length ≤ 5 * (0 + i)) → ∃ s' : List Cl, (s' = ((rangeL 0 (w : Int)).take (0 + i + 1)).flatMap (fun x => (rangeL 0 (h : Int)).map fun y => (x, y)) ∧ s'.length ≤ 5 * (0 + i + 1)) ∧ ∀ kc : List Cl → Option (List Cl),
      ck (rgOk 0 (List.length T : Int)) (compO (rangeL 0 (List.length T : Int)) () (fun x390 (t389 : Unit) kc397 => (kc397 (some (x, x390)) ())) [] fun (ys395 : List Cl) (t396 : Unit) => ck (decide (List.length s + List.length ys395 ≤ SZ)) (kc (s ++ ys395))) = kc s' := by
    intro i s x hxi he
    obtain ⟨e1, e2⟩ := he
    have hi := lt_of_get hxi
    rw [rng_len] at hi
    have sn : (rangeL 0 (w : Int)).take (i + 1) = (rangeL 0 (w : Int)).take i ++ [x] := by rw [List.take_add_one, hxi]; rfl
    rw [Nat.zero_add] at e1 e2 ⊢
    refine ⟨s ++ (rangeL 0 (h : Int)).map fun y => (x, y), ⟨by rw [sn, List.flatMap_append, ← e1]; simp, by rw [List.length_append, List.length_map, rng_len]; omega⟩, fun kc => ?_⟩
    rw [r.lh, ck_pos (rgOk_s (by omega) (by omega) (by omega) (by omega))]
    refine (compO_map (fun y : Int => (x, y)) () _ [] (by rw [rng_len]; simp; omega) fun _ _ _ => rfl).trans ?_
    rw [List.nil_append, ck_pos (decide_eq_true (by rw [List.length_map, rng_len]; omega))]
  obtain ⟨s', ⟨e', _⟩, ek⟩ := forO_run (Ω := List Cl) (fun n (s : List Cl) => s = ((rangeL 0 (w : Int)).take n).flatMap (fun x => (rangeL 0 (h : Int)).map fun y => (x, y)) ∧ s.length ≤ 5 * n) (rangeL 0 (w : Int)) 0 [] ⟨rfl, by simp⟩ step
  rw [Nat.zero_add, List.take_length] at e'
  refine (ek _).trans ?_
  rw [e']; rfl
theorem pcells_ok {T : List (List Cl)} {w h : Nat} (r : Rc T w h) (h1 : 1 ≤ h) (hw : w ≤ 5) (hh : h ≤ 5) : m_cells_in T = some (cellsL w h) := by
  have hS : (1000000 : Nat) ≤ SZ := by decide
  unfold m_cells_in
  dsimp only
  obtain ⟨e, l⟩ := r.row (y := 0) (by decide) (by omega)
  have ne : (!List.isEmpty T) = true := by
    have := r.lh
    cases T with
    | nil => simp at this; omega
    | cons a b => rfl
  rw [ne, ite_t, e, Option.bind_some, l, r.lh, ck_pos (rgOk_s (by omega) (by omega) (by omega) (by omega))]
  have step : ∀ (i : Nat) (s : List Cl) (x : Int), (rangeL 0 (w : Int))[i]? = some x → (s = ((rangeL 0 (w : Int)).take (0 + i)).flatMap (fun x => (rangeL 0 (h : Int)).map fun y => (x, y)) ∧ s.length ≤ 5 * (0 + i)) → ∃ s' : List Cl, (s' = ((rangeL 0 (w : Int)).take (0 + i + 1)).flatMap (fun x => (rangeL 0 (h : Int)).map fun y => (x, y)) ∧ s'.length ≤ 5 * (0 + i + 1)) ∧ ∀ kc : List Cl → Option (List Cl),
      forO (rangeL 0 (h : Int)) s (fun y (a : List Cl) kc19 => ck (decide (List.length a < SZ)) (kc19 (a ++ [(x, y)]))) kc = kc s' := by
    intro i s x hxi he
    obtain ⟨e1, e2⟩ := he
    have hi := lt_of_get hxi
    rw [rng_len] at hi
    have sn : (rangeL 0 (w : Int)).take (i + 1) = (rangeL 0 (w : Int)).take i ++ [x] := by rw [List.take_add_one, hxi]; rfl
    rw [Nat.zero_add] at e1 e2 ⊢
    refine ⟨s ++ (rangeL 0 (h : Int)).map fun y => (x, y), ⟨by rw [sn, List.flatMap_append, ← e1]; simp, by rw [List.length_append, List.length_map, rng_len]; omega⟩, fun kc => ?_⟩
    refine (forO_filt (fun y : Int => some (x, y)) _ _ (by rw [rng_len]; omega) fun y _ t kc ht => ?_).trans ?_
    · rw [ck_pos (decide_eq_true ht)]; rfl
    · rw [show (fun y : Int => some (x, y)) = (some ∘ fun y : Int => (x, y)) from rfl, List.filterMap_eq_map]
  obtain ⟨s', ⟨e', _⟩, ek⟩ := forO_run (Ω := List Cl) (fun n (s : List Cl) => s = ((rangeL 0 (w : Int)).take n).flatMap (fun x => (rangeL 0 (h : Int)).map fun y => (x, y)) ∧ s.length ≤ 5 * n) (rangeL 0 (w : Int)) 0 [] ⟨rfl, by simp⟩ step
  rw [Nat.zero_add, List.take_length] at e'
  refine Eq.trans ?_ ((ek fun s => some s).trans (by rw [e']; rfl))
  refine forO_congr _ _ fun x _ s kc => ?_
  rw [ck_pos (rgOk_s (by omega) (by omega) (by omega) (by omega))]
/-- what can be reached -/
def nbs (c : Cl) : List Cl := [(c.1 - 1, c.2), (c.1, c.2 - 1), (c.1, c.2 + 1), (c.1 + 1, c.2)]
theorem nbs_sym {c d : Cl} : d ∈ nbs c ↔ c ∈ nbs d := by
  obtain ⟨a, b⟩ := c
  obtain ⟨x, y⟩ := d
  simp only [nbs, List.mem_cons, List.not_mem_nil, or_false, Prod.mk.injEq]
  omega
inductive Rch (P : Cl → Prop) (s : Cl) : Cl → Prop
  | base : P s → Rch P s s
  | step {c d : Cl} : Rch P s c → d ∈ nbs c → P d → Rch P s d
theorem Rch.ok {P : Cl → Prop} {s c : Cl} (h : Rch P s c) : P c := by
  cases h with
  | base h => exact h
  | step _ _ h => exact h
theorem Rch.mono {P Q : Cl → Prop} (i : ∀ c, P c → Q c) {s c : Cl} (h : Rch P s c) : Rch Q s c := by
  induction h with
  | base h => exact .base (i _ h)
  | step _ n h ih => exact .step ih n (i _ h)
theorem Rch.closed {P : Cl → Prop} {s : Cl} {L : List Cl} (h0 : P s → s ∈ L) (hc : ∀ c ∈ L, ∀ d ∈ nbs c, P d → d ∈ L) {c : Cl} (h : Rch P s c) : c ∈ L := by
  induction h with
  | base h => exact h0 h
  | step _ n h ih => exact hc _ ih _ n h
theorem sort_perm {A B : List (Int × Int)} (h : A.Perm B) : sortB lpp A = sortB lpp B := by
  refine List.Perm.eq_of_pairwise (le := fun s t => s.1 < t.1 ∨ (s.1 = t.1 ∧ s.2 ≤ t.2)) (fun a b _ _ h1 h2 => Prod.ext (by omega) (by omega)) (sort2_pw A) (sort2_pw B) ?_
  exact ((List.mergeSort_perm _ _).trans h).trans (List.mergeSort_perm _ _).symm
/-- the sorted list of what can be reached -/
structure IsLot (P : Cl → Prop) (s : Cl) (L : List Cl) : Prop where
  ex : ∃ M : List Cl, M.Nodup ∧ (∀ c, c ∈ M ↔ Rch P s c) ∧ L = sortB lpp M
theorem IsLot.uniq {P : Cl → Prop} {s : Cl} {L L' : List Cl} (a : IsLot P s L) (b : IsLot P s L') : L = L' := by
  obtain ⟨M, n, m, rfl⟩ := a.ex
  obtain ⟨M', n', m', rfl⟩ := b.ex
  exact sort_perm ((List.perm_ext_iff_of_nodup n n').2 fun c => (m c).trans (m' c).symm)
theorem IsLot.mem {P : Cl → Prop} {s : Cl} {L : List Cl} (a : IsLot P s L) (c : Cl) : c ∈ L ↔ Rch P s c := by
  obtain ⟨M, n, m, rfl⟩ := a.ex
  rw [sortB_mem]; exact m c
theorem nodup_le : ∀ {M N : List Cl}, M.Nodup → (∀ c ∈ M, c ∈ N) → M.length ≤ N.length
  | [], _, _, _ => Nat.zero_le _
  | a :: M, N, n, h => by
    have ha := h a (by simp)
    obtain ⟨na, nM⟩ := List.nodup_cons.1 n
    have := nodup_le (N := N.erase a) nM fun c m => (List.mem_erase_of_ne (fun z : c = a => na (by rw [← z]; exact m))).2 (h c (by simp [m]))
    rw [List.length_erase_of_mem ha] at this
    have : 0 < N.length := List.length_pos_of_mem ha
    simp only [List.length_cons]; omega
def Pg (w h : Nat) (g : Cl → Int) (c : Cl) : Prop := Ins w h c ∧ 0 < g c
instance (w h : Nat) (g : Cl → Int) (c : Cl) : Decidable (Pg w h g c) := inferInstanceAs (Decidable (_ ∧ _))
def near (c : Cl) : List Cl := [(c.1 + 1, c.2), (c.1 - 1, c.2), (c.1, c.2 + 1), (c.1, c.2 - 1)]
theorem near_nbs {c d : Cl} : d ∈ near c ↔ c ∈ nbs d := by
  rw [← nbs_sym]
  obtain ⟨a, b⟩ := c
  obtain ⟨x, y⟩ := d
  simp only [near, nbs, List.mem_cons, List.not_mem_nil, or_false, Prod.mk.injEq]
  omega
def lotC (left : List (List Int)) (found : List Cl) (c : Cl) : Bool := decide (0 < gt 0 left c ∧ c ∉ found ∧ ∃ d ∈ near c, d ∈ found)
def lotB (a_left : List (List Int)) (t414 : (List (Int × Int)) × Bool) (kc415 : (List (Int × Int)) × Bool → Option (List (Int × Int))) : Option (List (Int × Int)) :=
    let k508 := fun t506 : ((List (Int × Int)) × Bool) => (
      (some (sortB (lt2 ltI ltI) t506.1)).bind fun y507 =>
      some y507)
    if t414.2 = true then (
      let v_more_418 : (List (Int × Int)) := ([] : (List (Int × Int)))
      (m__law_cells (List.map (List.map eI.enc) a_left)).bind fun r421 =>
      forO r421 v_more_418 (fun x424 (t423 : (List (Int × Int))) kc425 => (
        let v_near_443 : (List (Int × Int)) := [((x424.1 + (1 : Int)), x424.2), ((x424.1 - (1 : Int)), x424.2), (x424.1, (x424.2 + (1 : Int))), (x424.1, (x424.2 - (1 : Int)))]
        ((atI a_left x424.2).bind fun y466 =>
        (atI y466 x424.1).bind fun y468 =>
        let k494 := fun z : Bool => (some z)
        if (decide ((0 : Int) < y468)) = true then (let k495 := fun z : Bool => (k494 z)
        if (!inB (x424.1, x424.2) t414.1) = true then (compO v_near_443 () (fun x477 (t476 : Unit) kc483 => (
          if (inB x477 t414.1) = true then (kc483 (some x477) ()) else kc483 none ())) [] fun (ys481 : List (Int × Int)) (t482 : Unit) => (
          k495 (decide ((0 : Int) < (List.length ys481 : Int))))) else k495 false) else k494 false).bind fun z485 : Bool =>
        let k488 := fun j487 : (List (Int × Int)) => (
          kc425 j487)
        if z485 = true then (
          ck (decide (List.length t423 < SZ)) (
          let w493 : (List (Int × Int)) := t423 ++ [(x424.1, x424.2)]
          k488 w493))
        else (
          k488 t423)))
        fun t496 : (List (Int × Int)) => (
        let z498 : (List (Int × Int)) := t414.1
        let z499 : (List (Int × Int)) := t496
        ck (decide (List.length z498 + List.length z499 ≤ SZ)) (let v_found_500 : (List (Int × Int)) := (z498 ++ z499)
        let v_turning_503 : Bool := (decide ((0 : Int) < (List.length t496 : Int)))
        kc415 (v_found_500, v_turning_503))))
    else k508 t414
theorem Rc.map {α β : Type} {T : List (List α)} {w h : Nat} (r : Rc T w h) (f : α → β) : Rc (T.map (List.map f)) w h := ⟨by rw [List.length_map, r.lh], fun q m => by
  obtain ⟨a, ma, rfl⟩ := List.mem_map.1 m
  rw [List.length_map, r.lw a ma]⟩
theorem lot_step {left : List (List Int)} {w h : Nat} (r : Rc left w h) (h1 : 1 ≤ h) (hw : w ≤ 5) (hh : h ≤ 5) {found : List Cl} (hf : found.length ≤ 1000) (kc : (List Cl) × Bool → Option (List Cl)) :
    lotB left (found, true) kc = kc (found ++ (cellsL w h).filterMap (fun c => if lotC left found c = true then some c else none), decide ((0 : Int) < (((cellsL w h).filterMap (fun c => if lotC left found c = true then some c else none)).length : Int))) := by
  have hS : (1000000 : Nat) ≤ SZ := by decide
  have hc : (cellsL w h).length ≤ 25 := by
    rw [cells_len]; exact Nat.le_trans (Nat.mul_le_mul hw hh) (by decide)
  unfold lotB
  dsimp only
  rw [if_pos rfl, lcells_ok (r.map _) h1 hw hh, Option.bind_some]
  refine (forO_filt (fun c => if lotC left found c = true then some c else none) _ _ (by simp; omega) fun c mc t kc2 ht => ?_).trans ?_
  · have i := mem_cells.1 mc
    have key : ((atI left c.2).bind fun y466 => (atI y466 c.1).bind fun y468 => if (decide ((0 : Int) < y468)) = true then (if (!inB (c.1, c.2) found) = true then (compO [((c.1 + (1 : Int)), c.2), ((c.1 - (1 : Int)), c.2), (c.1, (c.2 + (1 : Int))), (c.1, (c.2 - (1 : Int)))] () (fun x477 (t476 : Unit) kc483 => (
          if (inB x477 found) = true then (kc483 (some x477) ()) else kc483 none ())) [] fun (ys481 : List (Int × Int)) (t482 : Unit) => (
          some (decide ((0 : Int) < (List.length ys481 : Int))))) else some false) else some false) = some (lotC left found c) := by
      refine (r.at 0 i _).trans ?_
      unfold lotC
      rw [ite_d]
      by_cases p : 0 < gt 0 left c
      · rw [if_pos p]
        by_cases q : c ∈ found
        · rw [show inB (c.1, c.2) found = true from inB_iff.2 q, ite_nt, decide_eq_false (fun z => z.2.1 q)]
        · have : inB (c.1, c.2) found = false := by
            cases e : inB (c.1, c.2) found with
            | false => rfl
            | true => exact absurd (inB_iff.1 e) q
          rw [this, ite_nf]
          refine (compO_filterMap (fun d : Cl => if inB d found = true then some d else none) () _ [] (by simp; omega) fun d _ kc3 => ?_).trans ?_
          · split <;> rfl
          · rw [List.nil_append]
            congr 1
            rw [decide_eq_decide]
            constructor
            · intro z
              have : (([((c.1 + (1 : Int)), c.2), ((c.1 - (1 : Int)), c.2), (c.1, (c.2 + (1 : Int))), (c.1, (c.2 - (1 : Int)))] : List Cl).filterMap fun d : Cl => if inB d found = true then some d else none) ≠ [] := fun e => by rw [e] at z; exact absurd z (by decide)
              obtain ⟨d, md⟩ := List.exists_mem_of_ne_nil _ this
              obtain ⟨d', md', e⟩ := List.mem_filterMap.1 md
              split at e
              · rename_i b
                exact ⟨p, q, d', md', inB_iff.1 b⟩
              · cases e
            · rintro ⟨_, _, d, md, mf⟩
              have : d ∈ (([((c.1 + (1 : Int)), c.2), ((c.1 - (1 : Int)), c.2), (c.1, (c.2 + (1 : Int))), (c.1, (c.2 - (1 : Int)))] : List Cl).filterMap fun d : Cl => if inB d found = true then some d else none) := List.mem_filterMap.2 ⟨d, md, if_pos (inB_iff.2 mf)⟩
              have := List.length_pos_of_mem this
              omega
      · rw [if_neg p, decide_eq_false (fun z => p z.1)]
    refine (congrArg (fun o : Option Bool => o.bind _) key).trans ?_
    rw [Option.bind_some]
    cases lotC left found c with
    | true => rw [if_pos rfl, ck_pos (decide_eq_true ht)]; rfl
    | false => simp
  · rw [List.nil_append]
    have : ((cellsL w h).filterMap (fun c => if lotC left found c = true then some c else none)).length ≤ 25 := Nat.le_trans (List.length_filterMap_le _ _) hc
    rw [ck_pos (decide_eq_true (by omega))]
theorem fm_mem {left : List (List Int)} {found : List Cl} {L : List Cl} {c : Cl} : c ∈ L.filterMap (fun c => if lotC left found c = true then some c else none) ↔ c ∈ L ∧ lotC left found c = true := by
  rw [List.mem_filterMap]
  constructor
  · rintro ⟨d, md, e⟩
    split at e
    · cases e; exact ⟨md, by assumption⟩
    · cases e
  · rintro ⟨m, e⟩
    exact ⟨c, m, if_pos e⟩
theorem cells_nd (w h : Nat) : (cellsL w h).Nodup := by
  unfold cellsL List.Nodup
  rw [List.pairwise_flatMap]
  refine ⟨fun x _ => ?_, ?_⟩
  · rw [List.pairwise_map]
    exact (rangeL_asc).imp fun h e => by injection e with _ e; omega
  · refine (rangeL_asc).imp fun {a b} hab c m1 d m2 e => ?_
    obtain ⟨_, _, rfl⟩ := List.mem_map.1 m1
    obtain ⟨_, _, rfl⟩ := List.mem_map.1 m2
    injection e with e; omega
def LotInv (w h : Nat) (g : Cl → Int) (s : Cl) (t : List Cl × Bool) : Prop := t.1.Nodup ∧ (∀ c ∈ t.1, Rch (Pg w h g) s c) ∧ (Pg w h g s → s ∈ t.1) ∧ (t.2 = false → ∀ c ∈ t.1, ∀ d ∈ nbs c, Pg w h g d → d ∈ t.1)
theorem inv_len {w h : Nat} {g : Cl → Int} {s : Cl} {L : List Cl} (hw : w ≤ 5) (hh : h ≤ 5) (nd : L.Nodup) (m : ∀ c ∈ L, Rch (Pg w h g) s c) : L.length ≤ 25 := by
  have := nodup_le nd (N := cellsL w h) fun c mc => mem_cells.2 (m c mc).ok.1
  rw [cells_len] at this
  exact Nat.le_trans this (Nat.le_trans (Nat.mul_le_mul hw hh) (by decide))
theorem lot_ok {left : List (List Int)} {w h : Nat} (r : Rc left w h) (h1 : 1 ≤ h) (hw : w ≤ 5) (hh : h ≤ 5) {s : Cl} (i : Ins w h s) : ∃ L, m__law_lot 100 left s = some L ∧ IsLot (Pg w h (gt 0 left)) s L := by
  have st : ∃ f0 : List Cl, ((atI left s.2).bind fun y403 => (atI y403 s.1).bind fun y405 => if (decide ((0 : Int) < y405)) = true then some ([s]) else some ([] : (List Cl))) = some f0 ∧ LotInv w h (gt 0 left) s (f0, true) ∧ f0.length ≤ 1 := by
    by_cases p : 0 < gt 0 left s
    · refine ⟨[s], (r.at 0 i _).trans (by rw [ite_d, if_pos p]), ⟨by simp, fun c m => ?_, fun _ => by simp, fun z => nomatch z⟩, by simp⟩
      simp at m; subst m; exact .base ⟨i, p⟩
    · exact ⟨[], (r.at 0 i _).trans (by rw [ite_d, if_neg p]), ⟨by simp, (fun _ m => nomatch m), fun z => absurd z.2 p, fun z => nomatch z⟩, by simp⟩
  obtain ⟨f0, ef, iv, lf⟩ := st
  obtain ⟨t, it, dn, fu, ew⟩ := whileO_run (Ω := List Cl) (LotInv w h (gt 0 left) s) (fun t => 2 * (25 - t.1.length) + (if t.2 = true then 1 else 0)) (fun t => t.2 = false) (b := lotB left) (fun t it nd => by
    obtain ⟨found, tr⟩ := t
    have : tr = true := by cases tr <;> simp_all
    subst this
    obtain ⟨n, m, b, _⟩ := it
    dsimp only at n m b
    have lf := inv_len hw hh n m
    refine ⟨_, ?_, ?_, fun kc => lot_step r h1 hw hh (by omega) kc⟩
    · have nm : ((cellsL w h).filterMap (fun c => if lotC left found c = true then some c else none)).Nodup := by
        have := (cells_nd w h).filter (fun c => lotC left found c)
        rw [← List.filterMap_eq_filter] at this
        exact this
      have mm : ∀ c ∈ found ++ (cellsL w h).filterMap (fun c => if lotC left found c = true then some c else none), Rch (Pg w h (gt 0 left)) s c := fun c mc => by
        rcases List.mem_append.1 mc with mc | mc
        · exact m c mc
        · obtain ⟨a, e⟩ := fm_mem.1 mc
          obtain ⟨p, _, d, md, mf⟩ := of_decide_eq_true e
          exact .step (m d mf) (near_nbs.1 md) ⟨mem_cells.1 a, p⟩
      refine ⟨?_, mm, fun z => List.mem_append_left _ (b z), fun z c mc d md pd => ?_⟩
      · rw [List.nodup_append]
        refine ⟨n, nm, fun a ha b hb e => ?_⟩
        subst e
        obtain ⟨_, e⟩ := fm_mem.1 hb
        exact (of_decide_eq_true e).2.1 ha
      · have ze : (cellsL w h).filterMap (fun c => if lotC left found c = true then some c else none) = [] := by
          have := of_decide_eq_false z
          exact List.length_eq_zero_iff.1 (by omega)
        dsimp only at mc ⊢
        rw [ze, List.append_nil] at mc ⊢
        by_cases q : d ∈ found
        · exact q
        · have : d ∈ (cellsL w h).filterMap (fun c => if lotC left found c = true then some c else none) := fm_mem.2 ⟨mem_cells.2 pd.1, decide_eq_true ⟨pd.2, q, c, near_nbs.2 md, mc⟩⟩
          rw [ze] at this; cases this
    · dsimp only
      generalize hmore : (cellsL w h).filterMap (fun c => if lotC left found c = true then some c else none) = more
      rw [List.length_append]
      by_cases z : more.length = 0
      · rw [decide_eq_false (by omega), if_neg (by decide), if_pos rfl]; omega
      · have : (found ++ more).length ≤ 25 := by
          rw [← hmore]
          refine inv_len (s := s) (g := gt 0 left) hw hh ?_ fun c mc => ?_
          · rw [List.nodup_append]
            have := (cells_nd w h).filter (fun c => lotC left found c)
            rw [← List.filterMap_eq_filter] at this
            refine ⟨n, this, fun a ha b hb e => ?_⟩
            subst e
            obtain ⟨_, e⟩ := fm_mem.1 hb
            exact (of_decide_eq_true e).2.1 ha
          · rcases List.mem_append.1 mc with mc | mc
            · exact m c mc
            · obtain ⟨a, e⟩ := fm_mem.1 mc
              obtain ⟨p, _, d, md, mf⟩ := of_decide_eq_true e
              exact .step (m d mf) (near_nbs.1 md) ⟨mem_cells.1 a, p⟩
        rw [List.length_append] at this
        rw [decide_eq_true (by omega), if_pos rfl]; omega) 100 (f0, true) (by dsimp only; rw [if_pos rfl]; omega) iv
  refine ⟨sortB lpp t.1, ?_, ⟨t.1, it.1, fun c => ⟨it.2.1 c, fun hc => hc.closed it.2.2.1 (it.2.2.2 dn)⟩, rfl⟩⟩
  unfold m__law_lot
  refine bind_wp ef ?_
  refine ew.trans ?_
  obtain ⟨found, tr⟩ := t
  dsimp only at dn
  subst dn
  rfl
/-! ### reach_from -/
def sd (side : Int) (p : Int × Int) : Int := if side = 0 then p.1 else p.2
theorem sd_at {side : Int} (hs : side = 0 ∨ side = 1) (p : Int × Int) : atI ([p.1, p.2]) side = some (sd side p) := by
  rcases hs with rfl | rfl <;> rfl
def gr (rest : List (List Cl)) (side : Int) (c : Cl) : Int := sd side (gt (0, 0) rest c)
def rfN (a_rest : List (List Cl)) (a_side : Int) (found : List Cl) (x160 : Cl) (t159 : List Cl) (kc161 : List Cl → Option (List Cl)) : Option (List Cl) :=
          ((let k199 := fun z : Bool => (some z)
          if decide ((0 : Int) ≤ x160.1) = true then ((atI a_rest (0 : Int)).bind fun y166 =>
          k199 (decide (x160.1 < (List.length y166 : Int)))) else k199 false).bind fun z168 : Bool =>
          let k198 := fun z : Bool => (some z)
          if z168 = true then ((let k200 := fun z : Bool => (some z)
          if decide ((0 : Int) ≤ x160.2) = true then (k200 (decide (x160.2 < (List.length a_rest : Int)))) else k200 false).bind fun z173 : Bool =>
          k198 z173) else k198 false).bind fun z174 : Bool =>
          let v_inside_175 : Bool := z174
          (let k195 := fun z : Bool => (some z)
          if v_inside_175 = true then (let k196 := fun z : Bool => (k195 z)
          if (!inB x160 found) = true then (let k197 := fun z : Bool => (k196 z)
          if (!inB x160 t159) = true then ((m_at a_rest x160).bind fun r184 =>
          (atI ([r184.1, r184.2]) a_side).bind fun y186 =>
          k197 (decide ((0 : Int) < y186))) else k197 false) else k196 false) else k195 false).bind fun z188 : Bool =>
          let k191 := fun j190 : (List (Int × Int)) => (
            kc161 j190)
          if z188 = true then (
            ck (decide (List.length t159 < SZ)) (
            let w194 : (List (Int × Int)) := t159 ++ [x160]
            k191 w194))
          else (
            k191 t159)
def rfB (a_rest : List (List Cl)) (a_side : Int) (t128 : List Cl × List Cl) (kc129 : List Cl × List Cl → Option (List Cl)) : Option (List Cl) :=
    let k213 := fun t211 : ((List (Int × Int)) × (List (Int × Int))) => (
      (some (sortB (lt2 ltI ltI) t211.1)).bind fun y212 =>
      some y212)
    if (!List.isEmpty t128.2) = true then (
      let v_more_132 : (List (Int × Int)) := ([] : (List (Int × Int)))
      forO t128.2 v_more_132 (fun x136 (t135 : (List (Int × Int))) kc137 => (
        forO ([((x136.1 - (1 : Int)), x136.2), (x136.1, (x136.2 - (1 : Int))), (x136.1, (x136.2 + (1 : Int))), ((x136.1 + (1 : Int)), x136.2)]) t135 (rfN a_rest a_side t128.1)
          fun t201 : (List (Int × Int)) => (
          kc137 t201)))
        fun t203 : (List (Int × Int)) => (
        let z209 : (List (Int × Int)) := t203
        ck (decide (List.length t128.1 + List.length z209 ≤ SZ)) (
        let w206 : (List (Int × Int)) := t128.1 ++ z209
        let v_here_207 : (List (Int × Int)) := t203
        kc129 (w206, v_here_207))))
    else k213 t128
theorem not_inB {c : Cl} {L : List Cl} (h : c ∉ L) : inB c L = false := by
  cases e : inB c L with
  | false => rfl
  | true => exact absurd (inB_iff.1 e) h
section
variable {rest : List (List Cl)} {w h : Nat} {side : Int}
theorem rfN_ok (r : Rc rest w h) (h1 : 1 ≤ h) (hs : side = 0 ∨ side = 1) (found more : List Cl) (hm : more.length < SZ) (c : Cl) (kc : List Cl → Option (List Cl)) :
    rfN rest side found c more kc = kc (if Pg w h (gr rest side) c ∧ c ∉ found ∧ c ∉ more then more ++ [c] else more) := by
  obtain ⟨e0, l0⟩ := r.row (y := 0) (by decide) (by omega)
  unfold rfN
  dsimp only
  have k1 : (if decide ((0 : Int) ≤ c.1) = true then ((atI rest (0 : Int)).bind fun y166 => some (decide (c.1 < (List.length y166 : Int)))) else some false) = some (decide (0 ≤ c.1 ∧ c.1 < w)) := by
    rw [e0, Option.bind_some, l0, ite_d]
    by_cases z : 0 ≤ c.1
    · rw [if_pos z]; congr 1; rw [decide_eq_decide]; omega
    · rw [if_neg z, decide_eq_false (fun y => z y.1)]
  have k2 : (if decide ((0 : Int) ≤ c.2) = true then some (decide (c.2 < (List.length rest : Int))) else some false) = some (decide (0 ≤ c.2 ∧ c.2 < h)) := by
    rw [r.lh, ite_d]
    by_cases z : 0 ≤ c.2
    · rw [if_pos z]; congr 1; rw [decide_eq_decide]; omega
    · rw [if_neg z, decide_eq_false (fun y => z y.1)]
  rw [k1, Option.bind_some, k2, Option.bind_some]
  have k3 : (if decide (0 ≤ c.1 ∧ c.1 < (w : Int)) = true then some (decide (0 ≤ c.2 ∧ c.2 < (h : Int))) else some false) = some (decide (Ins w h c)) := by
    rw [ite_d]
    by_cases z : 0 ≤ c.1 ∧ c.1 < (w : Int)
    · rw [if_pos z]; congr 1; rw [decide_eq_decide]; exact ⟨fun y => ⟨z.1, z.2, y⟩, fun y => y.2.2⟩
    · rw [if_neg z, decide_eq_false (fun y => z ⟨y.1, y.2.1⟩)]
  rw [k3, Option.bind_some]
  have k4 : (if decide (Ins w h c) = true then (if (!inB c found) = true then (if (!inB c more) = true then ((m_at rest c).bind fun r184 => (atI ([r184.1, r184.2]) side).bind fun y186 => some (decide ((0 : Int) < y186))) else some false) else some false) else some false) = some (decide (Pg w h (gr rest side) c ∧ c ∉ found ∧ c ∉ more)) := by
    rw [ite_d]
    by_cases z : Ins w h c
    · rw [if_pos z]
      by_cases y : c ∈ found
      · rw [inB_iff.2 y, ite_nt, decide_eq_false (fun q => q.2.1 y)]
      · rw [not_inB y, ite_nf]
        by_cases x : c ∈ more
        · rw [inB_iff.2 x, ite_nt, decide_eq_false (fun q => q.2.2 x)]
        · rw [not_inB x, ite_nf, at_ok r z, Option.bind_some, sd_at hs, Option.bind_some]
          congr 1
          rw [decide_eq_decide]
          exact ⟨fun q => ⟨⟨z, q⟩, y, x⟩, fun q => q.1.2⟩
    · rw [if_neg z, decide_eq_false (fun q => z q.1.1)]
  rw [k4, Option.bind_some, ite_d]
  split
  · rw [ck_pos (decide_eq_true hm)]
  · rfl
/-- one more ring -/
def Ring (w h : Nat) (g : Cl → Int) (found : List Cl) (dn : List Cl) (more : List Cl) : Prop := more.Nodup ∧ (∀ d ∈ more, d ∉ found ∧ Pg w h g d ∧ ∃ c ∈ dn, d ∈ nbs c) ∧ ∀ c ∈ dn, ∀ d ∈ nbs c, Pg w h g d → d ∈ found ∨ d ∈ more
theorem ring_len {g : Cl → Int} {found dn more : List Cl} (hw : w ≤ 5) (hh : h ≤ 5) (r : Ring w h g found dn more) : more.length ≤ 25 := by
  have := nodup_le r.1 (N := cellsL w h) fun c mc => mem_cells.2 (r.2.1 c mc).2.1.1
  rw [cells_len] at this
  exact Nat.le_trans this (Nat.le_trans (Nat.mul_le_mul hw hh) (by decide))
theorem four_ok (r : Rc rest w h) (h1 : 1 ≤ h) (hw : w ≤ 5) (hh : h ≤ 5) (hs : side = 0 ∨ side = 1) {found dn more : List Cl} {c : Cl} (rg : Ring w h (gr rest side) found dn more) : ∃ more', Ring w h (gr rest side) found (dn ++ [c]) more' ∧ ∀ kc : List Cl → Option (List Cl), forO (nbs c) more (rfN rest side found) kc = kc more' := by
  have hS : (1000000 : Nat) ≤ SZ := by decide
  obtain ⟨m', im, em⟩ := forO_run (Ω := List Cl) (fun n (m : List Cl) => m.Nodup ∧ (∀ d ∈ m, d ∉ found ∧ Pg w h (gr rest side) d ∧ ∃ c' ∈ dn ++ [c], d ∈ nbs c') ∧ (∀ d ∈ more, d ∈ m) ∧ ∀ d ∈ (nbs c).take n, Pg w h (gr rest side) d → d ∈ found ∨ d ∈ m) (b := rfN rest side found) (nbs c) 0 more
    ⟨rg.1, fun d md => by
      obtain ⟨a, b, c', mc, e⟩ := rg.2.1 d md
      exact ⟨a, b, c', List.mem_append_left _ mc, e⟩, fun d md => md, fun d md => nomatch md⟩ (fun i m x hx im => by
      obtain ⟨n, a, b, e⟩ := im
      have hl : m.length ≤ 25 := by
        have := nodup_le n (N := cellsL w h) fun c mc => mem_cells.2 (a c mc).2.1.1
        rw [cells_len] at this
        exact Nat.le_trans this (Nat.le_trans (Nat.mul_le_mul hw hh) (by decide))
      have mx : x ∈ nbs c := List.mem_of_getElem? hx
      have tk : (nbs c).take (0 + i + 1) = (nbs c).take (0 + i) ++ [x] := by rw [Nat.zero_add, List.take_add_one, hx]; rfl
      refine ⟨_, ?_, fun kc => rfN_ok r h1 hs found m (by omega) x kc⟩
      by_cases z : Pg w h (gr rest side) x ∧ x ∉ found ∧ x ∉ m
      · rw [if_pos z]
        refine ⟨?_, fun d md => ?_, fun d md => List.mem_append_left _ (b d md), fun d md pd => ?_⟩
        · rw [List.nodup_append]
          refine ⟨n, by simp, fun a ha b hb e => ?_⟩
          simp at hb; subst hb; subst e; exact z.2.2 ha
        · rcases List.mem_append.1 md with md | md
          · exact a d md
          · simp at md; subst md
            exact ⟨z.2.1, z.1, c, by simp, mx⟩
        · rw [tk] at md
          rcases List.mem_append.1 md with md | md
          · exact (e d md pd).imp id (List.mem_append_left _)
          · simp at md; subst md; exact .inr (by simp)
      · rw [if_neg z]
        refine ⟨n, a, b, fun d md pd => ?_⟩
        rw [tk] at md
        rcases List.mem_append.1 md with md | md
        · exact e d md pd
        · simp at md; subst md
          by_cases y : d ∈ found
          · exact .inl y
          · by_cases q : d ∈ m
            · exact .inr q
            · exact absurd ⟨pd, y, q⟩ z)
  refine ⟨m', ⟨im.1, im.2.1, fun c' mc d md pd => ?_⟩, em⟩
  rcases List.mem_append.1 mc with mc | mc
  · exact (rg.2.2 c' mc d md pd).imp id (im.2.2.1 d)
  · simp at mc; subst mc
    refine im.2.2.2 d ?_ pd
    rw [Nat.zero_add, List.take_length]; exact md
theorem ring_ok (r : Rc rest w h) (h1 : 1 ≤ h) (hw : w ≤ 5) (hh : h ≤ 5) (hs : side = 0 ∨ side = 1) (found here : List Cl) : ∃ more, Ring w h (gr rest side) found here more ∧ ∀ k : List Cl → Option (List Cl), forO here [] (fun x136 (t135 : (List (Int × Int))) kc137 => (
        forO ([((x136.1 - (1 : Int)), x136.2), (x136.1, (x136.2 - (1 : Int))), (x136.1, (x136.2 + (1 : Int))), ((x136.1 + (1 : Int)), x136.2)]) t135 (rfN rest side found)
          fun t201 : (List (Int × Int)) => (
          kc137 t201))) k = k more := by
  obtain ⟨m, im, em⟩ := forO_run (Ω := List Cl) (fun n (m : List Cl) => Ring w h (gr rest side) found (here.take n) m) (b := fun (x136 : Cl) (t135 : (List (Int × Int))) (kc137 : List Cl → Option (List Cl)) => (
        forO ([((x136.1 - (1 : Int)), x136.2), (x136.1, (x136.2 - (1 : Int))), (x136.1, (x136.2 + (1 : Int))), ((x136.1 + (1 : Int)), x136.2)]) t135 (rfN rest side found)
          fun t201 : (List (Int × Int)) => (
          kc137 t201))) here 0 [] ⟨by simp, (fun _ m => nomatch m), (fun _ m => nomatch m)⟩ (fun i m x hx im => by
      have tk : here.take (0 + i + 1) = here.take (0 + i) ++ [x] := by rw [Nat.zero_add, List.take_add_one, hx]; rfl
      obtain ⟨m', im', em'⟩ := four_ok r h1 hw hh hs (c := x) im
      exact ⟨m', by rw [tk]; exact im', em'⟩)
  rw [Nat.zero_add, List.take_length] at im
  exact ⟨m, im, em⟩
def RfInv (w h : Nat) (g : Cl → Int) (s : Cl) (t : List Cl × List Cl) : Prop := t.1.Nodup ∧ (∀ c ∈ t.1, Rch (Pg w h g) s c) ∧ (Pg w h g s → s ∈ t.1) ∧ (∀ c ∈ t.2, c ∈ t.1) ∧ ∀ c ∈ t.1, c ∉ t.2 → ∀ d ∈ nbs c, Pg w h g d → d ∈ t.1
theorem reach_ok (r : Rc rest w h) (h1 : 1 ≤ h) (hw : w ≤ 5) (hh : h ≤ 5) (hs : side = 0 ∨ side = 1) {s : Cl} (i : Ins w h s) : ∃ L, m_reach_from 100 rest s side = some L ∧ IsLot (Pg w h (gr rest side)) s L := by
  have hS : (1000000 : Nat) ≤ SZ := by decide
  have st : ∃ f0 : List Cl, ((m_at rest s).bind fun r117 => (atI ([r117.1, r117.2]) side).bind fun y119 => if (decide ((0 : Int) < y119)) = true then some ([s]) else some ([] : (List Cl))) = some f0 ∧ RfInv w h (gr rest side) s (f0, f0) ∧ f0.length ≤ 1 := by
    rw [at_ok r i, Option.bind_some, sd_at hs, Option.bind_some, ite_d]
    by_cases p : 0 < sd side (gt (0, 0) rest s)
    · rw [if_pos p]
      refine ⟨[s], rfl, ⟨by simp, fun c m => ?_, fun _ => by simp, fun c m => m, fun c m n => absurd m n⟩, by simp⟩
      simp at m; subst m; exact .base ⟨i, p⟩
    · rw [if_neg p]
      exact ⟨[], rfl, ⟨by simp, (fun _ m => nomatch m), fun z => absurd z.2 p, fun c m => m, fun c m n => absurd m n⟩, by simp⟩
  obtain ⟨f0, ef, iv, lf⟩ := st
  obtain ⟨t, it, dn, fu, ew⟩ := whileO_run (Ω := List Cl) (RfInv w h (gr rest side) s) (fun t => 2 * (25 - t.1.length) + (if t.2 = [] then 0 else 1)) (fun t => t.2 = []) (b := rfB rest side) (fun t it nd => by
    obtain ⟨found, here⟩ := t
    obtain ⟨n, m, b, e, cl⟩ := it
    dsimp only at n m b e cl nd
    have lf := inv_len hw hh n m
    obtain ⟨more, rg, em⟩ := ring_ok r h1 hw hh hs found here
    have lm := ring_len hw hh rg
    have n2 : (found ++ more).Nodup := by
      rw [List.nodup_append]
      refine ⟨n, rg.1, fun a ha b hb e => ?_⟩
      subst e; exact (rg.2.1 a hb).1 ha
    have m2 : ∀ c ∈ found ++ more, Rch (Pg w h (gr rest side)) s c := fun c mc => by
      rcases List.mem_append.1 mc with mc | mc
      · exact m c mc
      · obtain ⟨_, pc, c', mc', nc⟩ := rg.2.1 c mc
        exact .step (m c' (e c' mc')) nc pc
    refine ⟨(found ++ more, more), ⟨n2, m2, fun z => List.mem_append_left _ (b z), fun c mc => List.mem_append_right _ mc, fun c mc nc d md pd => ?_⟩, ?_, fun kc => ?_⟩
    · dsimp only at mc nc ⊢
      rcases List.mem_append.1 mc with mc | mc
      · by_cases z : c ∈ here
        · exact List.mem_append.2 (rg.2.2 c z d md pd)
        · exact List.mem_append_left _ (cl c mc z d md pd)
      · exact absurd mc nc
    · have l2 := inv_len hw hh n2 m2
      dsimp only
      rw [List.length_append] at l2 ⊢
      rw [if_neg nd]
      by_cases z : more = []
      · rw [if_pos z, z]; simp
      · rw [if_neg z]
        have := List.length_pos_iff.2 z
        omega
    · have ne : (!List.isEmpty here) = true := by
        cases here with
        | nil => exact absurd rfl nd
        | cons a b => rfl
      unfold rfB
      dsimp only
      rw [ne, ite_t]
      refine (em _).trans ?_
      rw [ck_pos (decide_eq_true (by omega))]) 100 (f0, f0) (by dsimp only; split <;> omega) iv
  refine ⟨sortB lpp t.1, ?_, ⟨t.1, it.1, fun c => ⟨it.2.1 c, fun hc => hc.closed it.2.2.1 fun c mc => it.2.2.2.2 c mc (by rw [dn]; simp)⟩, rfl⟩⟩
  unfold m_reach_from
  refine bind_wp ef ?_
  refine ew.trans ?_
  obtain ⟨found, here⟩ := t
  dsimp only at dn
  subst dn
  rfl
end
/-! ### tables made cell by cell -/
def tabL {α : Type} (w h : Nat) (F : Cl → α) : List (List α) := (rangeL 0 (h : Int)).map fun y => (rangeL 0 (w : Int)).map fun x => F (x, y)
theorem tab_rc {α : Type} (w h : Nat) (F : Cl → α) : Rc (tabL w h F) w h := ⟨by unfold tabL; rw [List.length_map, rng_len]; omega, fun r m => by
  obtain ⟨y, _, rfl⟩ := List.mem_map.1 m
  rw [List.length_map, rng_len]; omega⟩
theorem rng_get {n i : Nat} (hi : i < n) : (rangeL 0 (n : Int))[i]? = some (i : Int) := by
  rw [rangeL_nat, List.getElem?_map, List.getElem?_range hi]; rfl
theorem tab_gt {α : Type} {w h : Nat} {F : Cl → α} (d : α) {c : Cl} (i : Ins w h c) : gt d (tabL w h F) c = F c := by
  obtain ⟨h0, h1, h2, h3⟩ := i
  obtain ⟨x, y⟩ := c
  dsimp only at h0 h1 h2 h3
  obtain ⟨a, rfl⟩ := Int.eq_ofNat_of_zero_le h0
  obtain ⟨b, rfl⟩ := Int.eq_ofNat_of_zero_le h2
  unfold gt tabL
  simp only [Int.toNat_natCast, List.getD_eq_getElem?_getD, List.getElem?_map, rng_get (show b < h by omega), Option.map_some, Option.getD_some, rng_get (show a < w by omega)]
theorem tab_run {α β Ω : Type} {T : List (List α)} {w h : Nat} (r : Rc T w h) (h1 : 1 ≤ h) (hw : w ≤ 5) (hh : h ≤ 5) (F : Cl → β) {b : Int → Int → (Option β → Unit → Option Ω) → Option Ω} (hb : ∀ x y : Int, Ins w h (x, y) → ∀ kc, b y x kc = kc (some (F (x, y))) ()) (K : List (List β) → Unit → Option Ω) :
    ck (rgOk 0 (List.length T : Int)) (compO (rangeL 0 (List.length T : Int)) () (fun y (t : Unit) kc => (atI T (0 : Int)).bind fun r0 => ck (rgOk 0 (List.length r0 : Int)) (compO (rangeL 0 (List.length r0 : Int)) () (fun x (t : Unit) kc2 => b y x kc2) [] fun (ys : List β) (t : Unit) => kc (some ys) ())) [] K) = K (tabL w h F) () := by
  have hS : (1000000 : Nat) ≤ SZ := by decide
  obtain ⟨e, l⟩ := r.row (y := 0) (by decide) (by omega)
  rw [r.lh, ck_pos (rgOk_s (by omega) (by omega) (by omega) (by omega))]
  refine (compO_map (fun y : Int => (rangeL 0 (w : Int)).map fun x => F (x, y)) () _ [] (by rw [rng_len]; simp; omega) fun y my kc => ?_).trans ?_
  · rw [e, Option.bind_some, l, ck_pos (rgOk_s (by omega) (by omega) (by omega) (by omega))]
    refine (compO_map (fun x : Int => F (x, y)) () _ [] (by rw [rng_len]; simp; omega) fun x mx kc => ?_).trans ?_
    · have a := mem_rng.1 mx
      have b := mem_rng.1 my
      exact hb x y ⟨a.1, a.2, b.1, b.2⟩ kc
    · rw [List.nil_append]
  · rw [List.nil_append]; rfl
theorem tab_of {α : Type} {T : List (List α)} {w h : Nat} (r : Rc T w h) (d : α) : T = tabL w h (gt d T) := by
  refine List.ext_getElem? fun i => ?_
  by_cases hi : i < h
  · have hT : i < T.length := by rw [r.lh]; exact hi
    unfold tabL
    rw [List.getElem?_map, rng_get hi, List.getElem?_eq_getElem hT]
    simp only [Option.map_some]
    congr 1
    have lr := r.lw _ (List.getElem_mem hT)
    refine List.ext_getElem? fun j => ?_
    by_cases hj : j < w
    · rw [List.getElem?_map, rng_get hj, List.getElem?_eq_getElem (by omega)]
      simp only [Option.map_some, gt, Int.toNat_natCast, List.getD_eq_getElem?_getD, List.getElem?_eq_getElem hT, Option.getD_some]
      rw [List.getElem?_eq_getElem (by omega)]; rfl
    · rw [List.getElem?_eq_none (by omega), List.getElem?_eq_none (by rw [List.length_map, rng_len]; omega)]
  · rw [List.getElem?_eq_none (by rw [r.lh]; omega), List.getElem?_eq_none (by rw [(tab_rc w h _).lh]; omega)]
section
variable {B W : List (List Cl)} {D : List (List Int)} {w h : Nat}
def rs (B : List (List Cl)) (D : List (List Int)) (c : Cl) : Int × Int := (max 0 ((gt (0, 0) B c).1 - gt 0 D c), max 0 ((gt (0, 0) B c).2 - gt 0 D c))
theorem restof_ok (rB : Rc B w h) (rD : Rc D w h) (hw : w ≤ 5) (hh : h ≤ 5) : m_rest_of B D = some (tabL w h (rs B D)) := by
  have hS : (1000000 : Nat) ≤ SZ := by decide
  unfold m_rest_of
  dsimp only
  rw [enumL_rng ([] : List Cl), forO_mapL, rB.lh]
  refine (forO_filt (fun y : Int => some ((rangeL 0 (w : Int)).map fun x => rs B D (x, y))) _ _ (by rw [rng_len]; simp; omega) fun y my t kc ht => ?_).trans ?_
  · have b := mem_rng.1 my
    obtain ⟨e, l⟩ := rB.row b.1 b.2
    dsimp only
    rw [enumL_rng ((0, 0) : Cl), l]
    refine (compO_map (fun p : Int × Cl => rs B D (p.1, y)) () _ [] (by rw [List.length_map, rng_len]; simp; omega) fun p mp kc => ?_).trans ?_
    · obtain ⟨x, mx, rfl⟩ := List.mem_map.1 mp
      have a := mem_rng.1 mx
      have i : Ins w h (x, y) := ⟨a.1, a.2, b.1, b.2⟩
      dsimp only
      refine (rD.at 0 i _).trans ((rD.at 0 i _).trans ?_)
      rfl
    · rw [List.nil_append, List.map_map, ck_pos (decide_eq_true ht)]
      rfl
  · rw [List.nil_append, show (fun y : Int => some ((rangeL 0 (w : Int)).map fun x => rs B D (x, y))) = (some ∘ fun y : Int => (rangeL 0 (w : Int)).map fun x => rs B D (x, y)) from rfl, List.filterMap_eq_map]
    rfl
def bad1 (B W : List (List Cl)) (D : List (List Int)) (c : Cl) : Bool := decide ((rs B D c).2 < (gt (0, 0) W c).1 ∨ (gt (0, 0) W c).2 < (rs B D c).1)
def bad2 (B W : List (List Cl)) (D : List (List Int)) (c : Cl) : Bool := decide ((rs B D c).1 < (gt (0, 0) W c).1 ∨ (gt (0, 0) W c).2 < (rs B D c).2)
def wdC (s : Str) (c : Cl) : PyData := .tuple [.str s, (eT2 eI eI).enc c]
def verR (B W : List (List Cl)) (D : List (List Int)) (w h : Nat) : PyData := ((cellsL w h).find? (bad1 B W D)).elim (((cellsL w h).find? (bad2 B W D)).elim (wd "sure") (wdC "open")) (wdC "spoilt")
theorem forO_cons {α S Ω : Type} {x : α} {xs : List α} {s : S} {b : α → S → (S → Option Ω) → Option Ω} {k : S → Option Ω} : forO (x :: xs) s b k = b x s (fun s' => forO xs s' b k) := rfl
theorem or_if {a b : Prop} [Decidable a] [Decidable b] : (if (decide a) = true then some true else some (decide b)) = some (decide (a ∨ b)) := by
  by_cases h : a <;> simp [h]
theorem verdict_ok (rB : Rc B w h) (rD : Rc D w h) (rW : Rc W w h) (h1 : 1 ≤ h) (hw : w ≤ 5) (hh : h ≤ 5) : m_verdict B D W = some (verR B W D w h) := by
  unfold m_verdict
  rw [restof_ok rB rD hw hh, Option.bind_some]
  dsimp only
  rw [pcells_ok rB h1 hw hh, Option.bind_some]
  have key : ∀ (L : List Cl) (o : Option Cl) (k : Option Cl → Option PyData), (∀ c ∈ L, Ins w h c) → forO L o (fun x72 (t71 : (Option (Int × Int))) kc73 => (
    (m_at (tabL w h (rs B D)) x72).bind fun r77 =>
    (m_at W x72).bind fun r82 =>
    (if (decide (r77.2 < r82.1)) = true then some true else (some (decide (r82.2 < r77.1)))).bind fun z88 : Bool =>
    if z88 = true then (
      some (PyData.tuple [PyData.str ("spoilt" : Str), ((eT2 eI eI).enc x72)]))
    else (
      (if (isNone ((eO (eT2 eI eI) (fun _ h => by cases h)).enc t71)) = true then ((if (decide (r77.1 < r82.1)) = true then some true else (some (decide (r82.2 < r77.2)))).bind fun z96 : Bool =>
      some z96) else some false).bind fun z97 : Bool =>
      if z97 = true then (kc73 (some x72))
      else (
        kc73 t71)))) k = (L.find? (bad1 B W D)).elim (k (o.or (L.find? (bad2 B W D)))) (fun c => some (wdC "spoilt" c)) := by
    intro L
    induction L with
    | nil => intro o k _; cases o <;> rfl
    | cons c L ih =>
      intro o k hL
      have i := hL c (by simp)
      have step : ∀ kc : Option Cl → Option PyData, ((m_at (tabL w h (rs B D)) c).bind fun r77 =>
          (m_at W c).bind fun r82 =>
          (if (decide (r77.2 < r82.1)) = true then some true else (some (decide (r82.2 < r77.1)))).bind fun z88 : Bool =>
          if z88 = true then (
            some (PyData.tuple [PyData.str ("spoilt" : Str), ((eT2 eI eI).enc c)]))
          else (
            (if (isNone ((eO (eT2 eI eI) (fun _ h => by cases h)).enc o)) = true then ((if (decide (r77.1 < r82.1)) = true then some true else (some (decide (r82.2 < r77.2)))).bind fun z96 : Bool =>
            some z96) else some false).bind fun z97 : Bool =>
            if z97 = true then (kc (some c))
            else (
              kc o))) = if bad1 B W D c = true then some (wdC "spoilt" c) else kc (o.or (if bad2 B W D c = true then some c else none)) := fun kc => by
        rw [at_ok (tab_rc w h _) i, Option.bind_some, at_ok rW i, Option.bind_some, tab_gt _ i, or_if, Option.bind_some, or_if]
        show (if bad1 B W D c = true then some (wdC "spoilt" c) else _) = _
        by_cases z : bad1 B W D c = true
        · rw [if_pos z, if_pos z]
        · rw [if_neg z, if_neg z]
          cases o with
          | some o => rfl
          | none =>
            show (if bad2 B W D c = true then _ else _) = _
            by_cases y : bad2 B W D c = true
            · rw [if_pos y, if_pos y]; rfl
            · rw [if_neg y, if_neg y]; rfl
      rw [forO_cons]
      refine (step (fun s' => forO L s' _ k)).trans ?_
      rw [List.find?_cons, List.find?_cons]
      cases z : bad1 B W D c with
      | true => rfl
      | false =>
        rw [if_neg (by decide)]
        refine (ih _ k fun c m => hL c (by simp [m])).trans ?_
        cases (L.find? (bad1 B W D)) with
        | some q => rfl
        | none =>
          simp only [Option.elim_none]
          congr 1
          cases o with
          | some o => rfl
          | none =>
            cases y : bad2 B W D c with
            | true => rfl
            | false => rfl
  refine (key _ none _ fun c m => mem_cells.1 m).trans ?_
  unfold verR
  cases (cellsL w h).find? (bad1 B W D) with
  | some q => rfl
  | none =>
    simp only [Option.elim_none, Option.none_or]
    cases (cellsL w h).find? (bad2 B W D) with
    | none => rfl
    | some q => rfl
theorem filt_find {α : Type} (p : α → Bool) (L : List α) : (L.find? p = none ∧ L.filterMap (fun c => if p c = true then some c else none) = []) ∨ ∃ c tl, L.find? p = some c ∧ L.filterMap (fun c => if p c = true then some c else none) = c :: tl := by
  induction L with
  | nil => left; exact ⟨rfl, rfl⟩
  | cons a L ih =>
    cases e : p a with
    | true => right; exact ⟨a, _, by rw [List.find?_cons, e], by rw [List.filterMap_cons, e]; rfl⟩
    | false =>
      rw [List.find?_cons, e, List.filterMap_cons, e]
      exact ih
end
theorem take_eq : m__law_take = takeM := rfl
theorem state_eq : m__law_state = stateM := rfl
structure TbOk (B : List (List Cl)) (w h : Nat) : Prop where
  rc : Rc B w h
  w1 : 1 ≤ w
  w5 : w ≤ 5
  h1 : 1 ≤ h
  h5 : h ≤ 5
  bd : ∀ r ∈ B, ∀ p ∈ r, 0 ≤ p.1 ∧ p.1 ≤ p.2 ∧ p.2 ≤ 30
theorem rc_mem {α : Type} {T : List (List α)} {w h : Nat} (r : Rc T w h) (d : α) {Q : α → Prop} (hq : ∀ q ∈ T, ∀ p ∈ q, Q p) {c : Cl} (i : Ins w h c) : Q (gt d T c) := by
  obtain ⟨h0, h1, h2, h3⟩ := i
  obtain ⟨x, y⟩ := c
  dsimp only at h0 h1 h2 h3
  obtain ⟨a, rfl⟩ := Int.eq_ofNat_of_zero_le h0
  obtain ⟨b, rfl⟩ := Int.eq_ofNat_of_zero_le h2
  have hb : b < T.length := by rw [r.lh]; omega
  have lr := r.lw _ (List.getElem_mem hb)
  unfold gt
  simp only [Int.toNat_natCast, List.getD_eq_getElem?_getD, List.getElem?_eq_getElem hb, Option.getD_some]
  rw [List.getElem?_eq_getElem (by omega)]
  exact hq _ (List.getElem_mem hb) _ (List.getElem_mem (by omega))
theorem table_ok {t : TSt} (ht : t.2 ≠ []) : ∃ o, m__law_table t = some o ∧ (o.2.2 ≠ [] ∧ ∃ w h, TbOk o.1.1 w h) := by
  have hS : (1000000 : Nat) ≤ SZ := by decide
  unfold m__law_table
  rw [take_eq]
  dsimp only
  obtain ⟨w0, t1, e1, a1, b1, ht⟩ := take_ok (m := 5) ht (by decide) (by decide)
  rw [e1, Option.bind_some]
  dsimp only
  obtain ⟨h0, t2, e2, a2, b2, ht⟩ := take_ok (m := 5) ht (by decide) (by decide)
  rw [e2, Option.bind_some]
  dsimp only
  obtain ⟨s0, t3, e3, a3, b3, ht⟩ := take_ok (m := 4) ht (by decide) (by decide)
  rw [e3, Option.bind_some]
  dsimp only
  obtain ⟨bs, t4, e4, a4, b4, ht⟩ := take_ok (m := 6) ht (by decide) (by decide)
  rw [e4, Option.bind_some]
  dsimp only
  rw [ck_pos (rgOk_s (by omega) (by omega) (by omega) (by omega))]
  refine forO_exN (fun n (s : TSt × List (List Cl)) => s.1.2 ≠ [] ∧ s.2.length = n ∧ ∀ r ∈ s.2, r.length = (1 + w0).toNat ∧ ∀ p ∈ r, 0 ≤ p.1 ∧ p.1 ≤ p.2 ∧ p.2 ≤ 30) _ 0 _ ⟨ht, rfl, (fun _ m => nomatch m)⟩ (fun i s x hxi hv kc hk => ?_) (fun s hv => ?_)
  · obtain ⟨ht, hl, hr⟩ := hv
    have hi := lt_of_get hxi
    rw [rng_len] at hi
    rw [ck_pos (rgOk_s (by omega) (by omega) (by omega) (by omega))]
    refine forO_exN (fun n (s : TSt × List Cl) => s.1.2 ≠ [] ∧ s.2.length = n ∧ ∀ p ∈ s.2, 0 ≤ p.1 ∧ p.1 ≤ p.2 ∧ p.2 ≤ 30) _ 0 _ ⟨ht, rfl, (fun _ m => nomatch m)⟩ (fun i2 s2 x2 hx2 hv2 kc2 hk2 => ?_) (fun s2 hv2 => ?_)
    · obtain ⟨ht2, hl2, hr2⟩ := hv2
      have hi2 := lt_of_get hx2
      rw [rng_len] at hi2
      obtain ⟨c0, t5, e5, a5, b5, ht5⟩ := take_ok (m := 8) ht2 (by decide) (by decide)
      rw [e5, Option.bind_some]
      dsimp only
      have fin : ∀ (z : Int) (j : TSt), 0 ≤ z → z ≤ 10 → j.2 ≠ [] → ∃ r, ((takeM j (2 : Int)).bind fun r362 =>
        (atI ([(2 : Int), (8 : Int)]) r362.1).bind fun y363 =>
        (takeM r362.2 y363).bind fun r365 =>
        ck (decide (List.length s2.2 < SZ)) (kc2 (r365.2, s2.2 ++ [(z, (z + r365.1))]))) = some r ∧ (r.2.2 ≠ [] ∧ ∃ w h, TbOk r.1.1 w h) := fun z j z0 z1 hj => by
        obtain ⟨v, t6, e6, a6, b6, ht6⟩ := take_ok (m := 2) hj (by decide) (by decide)
        rw [e6, Option.bind_some]
        dsimp only
        obtain ⟨y, ey, y0, y1⟩ : ∃ y, atI ([(2 : Int), (8 : Int)]) v = some y ∧ 1 ≤ y ∧ y ≤ 8 := by
          have : v = 0 ∨ v = 1 := by omega
          rcases this with rfl | rfl
          · exact ⟨2, rfl, by decide, by decide⟩
          · exact ⟨8, rfl, by decide, by decide⟩
        rw [ey, Option.bind_some]
        obtain ⟨v2, t7, e7, a7, b7, ht7⟩ := take_ok (m := y) ht6 (by omega) (by omega)
        rw [e7, Option.bind_some, ck_pos (decide_eq_true (by omega))]
        refine hk2 _ ⟨ht7, by simp [hl2], fun p m => ?_⟩
        rcases List.mem_append.1 m with m | m
        · exact hr2 p m
        · simp at m; subst m; dsimp only; omega
      rw [ite_d]
      by_cases c : 0 < c0
      · rw [if_pos c]
        obtain ⟨v, t6, e6, a6, b6, ht6⟩ := take_ok (m := 4) ht5 (by decide) (by decide)
        rw [e6, Option.bind_some]
        exact fin _ _ (by dsimp only; omega) (by dsimp only; omega) ht6
      · rw [if_neg c]
        obtain ⟨v, t6, e6, a6, b6, ht6⟩ := take_ok (m := 10) ht5 (by decide) (by decide)
        rw [e6, Option.bind_some]
        exact fin _ _ (by dsimp only; omega) (by dsimp only; omega) ht6
    · obtain ⟨ht2, hl2, hr2⟩ := hv2
      rw [rng_len] at hl2
      rw [ck_pos (decide_eq_true (by omega))]
      refine hk _ ⟨ht2, by simp [hl], fun r m => ?_⟩
      rcases List.mem_append.1 m with m | m
      · exact hr r m
      · simp at m; subst m; exact ⟨by omega, hr2⟩
  · obtain ⟨ht, hl, hr⟩ := hv
    rw [rng_len] at hl
    exact ⟨_, rfl, ht, (1 + w0).toNat, (1 + h0).toNat, ⟨by dsimp only; omega, fun r m => (hr r m).1⟩, by omega, by omega, by omega, by omega, fun r m => (hr r m).2⟩
theorem tab_map {α β : Type} {w h : Nat} {F : Cl → α} (f : α → β) : (tabL w h F).map (List.map f) = tabL w h fun c => f (F c) := by
  unfold tabL
  rw [List.map_map]
  congr 1
  funext y
  simp [List.map_map, Function.comp_def]
theorem pg_congr {w h : Nat} {g g' : Cl → Int} (e : ∀ c, Ins w h c → g c = g' c) (c : Cl) : Pg w h g c ↔ Pg w h g' c := ⟨fun p => ⟨p.1, by rw [← e c p.1]; exact p.2⟩, fun p => ⟨p.1, by rw [e c p.1]; exact p.2⟩⟩
theorem IsLot.congr {P Q : Cl → Prop} (e : ∀ c, P c ↔ Q c) {s : Cl} {L : List Cl} (a : IsLot P s L) : IsLot Q s L := by
  obtain ⟨M, n, m, rfl⟩ := a.ex
  exact ⟨M, n, fun c => (m c).trans ⟨Rch.mono fun c => (e c).1, Rch.mono fun c => (e c).2⟩, rfl⟩
/-- both searches tell the same -/
theorem both_ok {w h : Nat} (h1 : 1 ≤ h) (hw : w ≤ 5) (hh : h ≤ 5) (F : Cl → Int × Int) {s : Cl} (i : Ins w h s) : ∃ L0 L1, IsLot (Pg w h fun c => (F c).1) s L0 ∧ IsLot (Pg w h fun c => (F c).2) s L1 ∧
    m_reach_from 100 (tabL w h F) s 0 = some L0 ∧ m_reach_from 100 (tabL w h F) s 1 = some L1 ∧ m__law_lot 100 (tabL w h fun c => (F c).1) s = some L0 ∧ m__law_lot 100 (tabL w h fun c => (F c).2) s = some L1 := by
  obtain ⟨A0, a0, i0⟩ := reach_ok (tab_rc w h F) h1 hw hh (.inl rfl) i
  obtain ⟨A1, a1, i1⟩ := reach_ok (tab_rc w h F) h1 hw hh (.inr rfl) i
  obtain ⟨B0, b0, j0⟩ := lot_ok (tab_rc w h fun c => (F c).1) h1 hw hh i
  obtain ⟨B1, b1, j1⟩ := lot_ok (tab_rc w h fun c => (F c).2) h1 hw hh i
  have i0' := i0.congr (pg_congr (g' := fun c => (F c).1) fun c ic => by unfold gr; rw [tab_gt _ ic]; rfl)
  have i1' := i1.congr (pg_congr (g' := fun c => (F c).2) fun c ic => by unfold gr; rw [tab_gt _ ic]; rfl)
  have j0' := j0.congr (pg_congr (g' := fun c => (F c).1) fun c ic => tab_gt (F := fun c => (F c).1) (0 : Int) ic)
  have j1' := j1.congr (pg_congr (g' := fun c => (F c).2) fun c ic => tab_gt (F := fun c => (F c).2) (0 : Int) ic)
  have e0 := j0'.uniq i0'
  have e1 := j1'.uniq i1'
  subst e0; subst e1
  exact ⟨_, _, i0', i1', a0, a1, b0, b1⟩
def csD (L : List Cl) : PyData := (eL (eT2 eI eI)).enc L
def hanR (o : Cl) (L0 L1 : List Cl) : PyData := if inB o L0 = true then .tuple [.str ("surely" : Str), csD L0] else if inB o L1 = true then .tuple [.str ("perhaps" : Str), csD L0, csD L1] else .tuple [.str ("never" : Str), csD L1]
theorem hangs_ok {B : List (List Cl)} {D : List (List Int)} {w h : Nat} (rB : Rc B w h) (rD : Rc D w h) (hw : w ≤ 5) (hh : h ≤ 5) {s o : Cl} {L0 L1 : List Cl} (a0 : m_reach_from 100 (tabL w h (rs B D)) s 0 = some L0) (a1 : m_reach_from 100 (tabL w h (rs B D)) s 1 = some L1) : m_hangs 100 B D s o = some (hanR o L0 L1) := by
  unfold m_hangs
  rw [restof_ok rB rD hw hh, Option.bind_some]
  dsimp only
  rw [a0, Option.bind_some]
  unfold hanR
  cases inB o L0 with
  | true => rfl
  | false =>
    rw [if_neg (by decide), if_neg (by decide), a1, Option.bind_some]
    cases inB o L1 <;> rfl
theorem sI5 {x : Int} (h0 : 0 ≤ x) (h1 : x ≤ 100) : Sh 0 0 (.int x) := shI (by
  have : (101 : Nat) ≤ 10 ^ 12 := by decide
  omega)
theorem cell_sh {c : Cl} (h : 0 ≤ c.1 ∧ c.1 ≤ 100 ∧ 0 ≤ c.2 ∧ c.2 ≤ 100) : Sh 1 2 ((eT2 eI eI).enc c) := shT (shpC (sI5 h.1 h.2.1) (shpC (sI5 h.2.2.1 h.2.2.2) shp0))
theorem csD_sh {w h : Nat} (hw : w ≤ 5) (hh : h ≤ 5) {g : Cl → Int} {s : Cl} {L : List Cl} (l : IsLot (Pg w h g) s L) : Sh 2 (25 * 3) (csD L) := by
  obtain ⟨M, n, m, rfl⟩ := l.ex
  have lf := inv_len hw hh n fun c mc => (m c).1 mc
  refine shL (k := 1) (m := 2) (n := 25) (fun d md => ?_) (by rw [List.length_map, sortB_len]; exact lf)
  obtain ⟨c, mc, rfl⟩ := List.mem_map.1 md
  have := ((m c).1 (sortB_mem.1 mc)).ok.1
  unfold Ins at this
  exact cell_sh ⟨by omega, by omega, by omega, by omega⟩
theorem sw_of {s : Str} (h1 : PyData.strOk s = true) (h2 : (s.cps.toList.all fun c => decide (c < 16 ^ 8)) = true) (h3 : s.cps.size ≤ 20) : Sh 0 20 (.str s) := shS h1 h2 h3
theorem han_sh {w h : Nat} (hw : w ≤ 5) (hh : h ≤ 5) {g0 g1 : Cl → Int} {s o : Cl} {L0 L1 : List Cl} (l0 : IsLot (Pg w h g0) s L0) (l1 : IsLot (Pg w h g1) s L1) : SeqAt.shaped (hanR o L0 L1) = true := by
  unfold hanR
  have s0 := csD_sh hw hh l0
  have s1 := csD_sh hw hh l1
  split
  · exact (shT (shpC (sw_of (s := "surely") (by decide +kernel) (by decide +kernel) (by decide +kernel)) (shpC s0 shp0))).shaped
  · split
    · exact (shT (shpC (sw_of (s := "perhaps") (by decide +kernel) (by decide +kernel) (by decide +kernel)) (shpC s0 (shpC s1 shp0)))).shaped
    · exact (shT (shpC (sw_of (s := "never") (by decide +kernel) (by decide +kernel) (by decide +kernel)) (shpC s1 shp0))).shaped
theorem ver_sh {B W : List (List Cl)} {D : List (List Int)} {w h : Nat} (hw : w ≤ 5) (hh : h ≤ 5) : SeqAt.shaped (verR B W D w h) = true := by
  have k : ∀ (s : Str) (c : Cl), PyData.strOk s = true → (s.cps.toList.all fun c => decide (c < 16 ^ 8)) = true → s.cps.size ≤ 20 → c ∈ cellsL w h → SeqAt.shaped (wdC s c) = true := fun s c a b e m => by
    have := mem_cells.1 m
    unfold Ins at this
    exact (shT (shpC (sw_of a b e) (shpC (cell_sh ⟨by omega, by omega, by omega, by omega⟩) shp0))).shaped
  unfold verR
  cases e1 : (cellsL w h).find? (bad1 B W D) with
  | some c => exact k _ c (by decide +kernel) (by decide +kernel) (by decide +kernel) (List.mem_of_find?_eq_some e1)
  | none =>
    cases e2 : (cellsL w h).find? (bad2 B W D) with
    | some c => exact k _ c (by decide +kernel) (by decide +kernel) (by decide +kernel) (List.mem_of_find?_eq_some e2)
    | none => exact shaped_wd (by decide +kernel)
/-- a comprehension, item for item -/
theorem compO_rel {α β S Ω : Type} {ω : Ω} (Inv : S → Prop) (R : α → β → Prop) {b : α → S → (Option β → S → Option Ω) → Option Ω} : ∀ (xs : List α) (s : S) (acc : List β) (k : List β → S → Option Ω), Inv s → acc.length + xs.length ≤ SZ →
    (∀ s x, x ∈ xs → Inv s → ∀ kc : Option β → S → Option Ω, (∀ y s', R x y → Inv s' → kc (some y) s' = some ω) → b x s kc = some ω) →
    (∀ ys s, ys.length = xs.length → (∀ (i : Nat) x y, xs[i]? = some x → ys[i]? = some y → R x y) → Inv s → k (acc ++ ys) s = some ω) → compO xs s b acc k = some ω
  | [], s, acc, k, h0, _, _, he => by
    have := he [] s rfl (fun i x y e => by simp at e) h0
    rw [List.append_nil] at this; exact this
  | x :: xs, s, acc, k, h0, hl, hs, he => hs s x (List.mem_cons_self ..) h0 _ fun y s' hy h' => by
    simp only [List.length_cons] at hl
    show ck (decide (acc.length < SZ)) (compO xs s' b (acc ++ [y]) k) = some ω
    rw [ck_pos (decide_eq_true (by omega))]
    refine compO_rel Inv R xs s' (acc ++ [y]) k h' (by simp; omega) (fun s x m => hs s x (List.mem_cons_of_mem _ m)) fun ys s hlen hr hi => ?_
    rw [List.append_assoc]
    refine he (y :: ys) s (by simp [hlen]) (fun i a c ea ec => ?_) hi
    cases i with
    | zero => simp at ea ec; subst ea; subst ec; exact hy
    | succ i => exact hr i a c (by simpa using ea) (by simpa using ec)
theorem bind_eq_of {α β : Type} {o : Option α} {b : α} {g : α → Option β} {r : Option β} (h : o = some b) (hg : g b = r) : o.bind g = r := by rw [h]; exact hg
theorem gset' {α : Type} (A : List (List α)) (b c : List α) : (A ++ [b]).set A.length c = A ++ [c] := by
  rw [List.set_append_right _ _ (Nat.le_refl _)]; simp
theorem gget' {α : Type} (A : List (List α)) (b : List α) : (A ++ [b]).getD A.length [] = b := by
  rw [List.getD_eq_getElem?_getD, List.getElem?_append_right (Nat.le_refl _)]; simp
theorem pl_sh {T : List (List Cl)} {w v : Nat} (r : Rc T w v) (hw : w ≤ 5) (hv : v ≤ 5) (hb : ∀ q ∈ T, ∀ p ∈ q, (0 ≤ p.1 ∧ p.1 ≤ 100) ∧ 0 ≤ p.2 ∧ p.2 ≤ 100) : Sh 3 (5 * (5 * (2 + 1) + 1)) ((eL (eL (eT2 eI eI))).enc T) :=
  shL (fun d md => by
    obtain ⟨q, mq, rfl⟩ := List.mem_map.1 md
    refine shL (k := 1) (m := 2) (n := 5) (fun d md => ?_) (by rw [List.length_map, r.lw q mq]; exact hw)
    obtain ⟨p, mp, rfl⟩ := List.mem_map.1 md
    have := hb q mq p mp
    exact cell_sh ⟨by omega, by omega, by omega, by omega⟩) (by rw [List.length_map, r.lh]; exact hv)
theorem dl_sh {T : List (List Int)} {w v : Nat} (r : Rc T w v) (hw : w ≤ 5) (hv : v ≤ 5) (hb : ∀ q ∈ T, ∀ p ∈ q, 0 ≤ p ∧ p ≤ 100) : Sh 2 (5 * (5 * 1 + 1)) ((eL (eL eI)).enc T) :=
  shL (k := 1) (m := 5 * 1) (n := 5) (fun d md => by
    obtain ⟨q, mq, rfl⟩ := List.mem_map.1 md
    exact shInts (n := 5) ⟨by rw [r.lw q mq]; exact hw, fun x m => by
      have := hb q mq x m
      have : (101 : Nat) ≤ 10 ^ 12 := by decide
      omega⟩) (by rw [List.length_map, r.lh]; exact hv)
theorem rng_is {n i : Nat} {x : Int} (h : (rangeL 0 (n : Int))[i]? = some x) : x = i ∧ i < n := by
  have := lt_of_get h
  rw [rng_len] at this
  rw [rng_get (show i < n by omega)] at h
  exact ⟨(Option.some.inj h).symm, by omega⟩
theorem law_true (ns : List Int) (hn : ns.length ≤ 63) : m_law 100 ns = some true := by
  have hS : (1000000 : Nat) ≤ SZ := by decide
  obtain ⟨t, et, ht⟩ := state_ok hn
  unfold m_law
  rw [state_eq, take_eq]
  refine bind_wp et ?_
  dsimp only
  obtain ⟨o, eo, ht, w, v, tb⟩ := table_ok ht
  refine bind_wp eo ?_
  obtain ⟨⟨B, slope⟩, t⟩ := o
  dsimp only at ht tb ⊢
  have rB := tb.rc
  have w1 := tb.w1
  have w5 := tb.w5
  have h1 := tb.h1
  have h5 := tb.h5
  obtain rfl := rB.lh
  have lB : B.length = B.length := rfl
  refine bind_wp (lcells_ok (rB.map _) h1 w5 h5) ?_
  refine compO_wp (fun t : TSt => t.2 ≠ []) (fun r : List Int => r.length = w ∧ ∀ d ∈ r, 0 ≤ d ∧ d ≤ 8) _ _ [] ht (fun _ m => nomatch m) (by simp; omega) (fun t row mrow ht kc hk => ?_) fun D t dlen hD ht => ?_
  · have lr := rB.lw row mrow
    refine compO_wp (fun t : TSt => t.2 ≠ []) (fun d : Int => 0 ≤ d ∧ d ≤ 8) _ _ [] ht (fun _ m => nomatch m) (by simp; omega) (fun t one m1 ht kc2 hk2 => ?_) fun ys t ylen hys ht => ?_
    · refine take_wp ht (by decide) (by decide) fun a t1 a0 a1 ht => ?_
      dsimp only
      refine take_wp ht (by decide) (by decide) fun b t2 b0 b1 ht => ?_
      dsimp only
      obtain ⟨y, ey, y0, y1⟩ : ∃ y, atI ([(0 : Int), a]) b = some y ∧ 0 ≤ y ∧ y ≤ 8 := by
        have : b = 0 ∨ b = 1 := by omega
        rcases this with rfl | rfl
        · exact ⟨0, rfl, by decide, by decide⟩
        · exact ⟨a, rfl, by omega, by omega⟩
      exact bind_wp ey (hk2 _ _ ⟨y0, y1⟩ ht)
    · exact hk _ _ ⟨by rw [ylen]; simp; omega, hys⟩ ht
  have rD : Rc D w B.length := ⟨by rw [dlen]; simp, fun r m => (hD r m).1⟩
  have bD : ∀ {c}, Ins w B.length c → 0 ≤ gt 0 D c ∧ gt 0 D c ≤ 8 := fun {c} i => rc_mem rD 0 (Q := fun d => 0 ≤ d ∧ d ≤ 8) (fun q m p mp => (hD q m).2 p mp) i
  have bB : ∀ {c}, Ins w B.length c → 0 ≤ (gt (0, 0) B c).1 ∧ (gt (0, 0) B c).1 ≤ (gt (0, 0) B c).2 ∧ (gt (0, 0) B c).2 ≤ 30 := fun {c} i => rc_mem rB (0, 0) (Q := fun p : Cl => 0 ≤ p.1 ∧ p.1 ≤ p.2 ∧ p.2 ≤ 30) tb.bd i
  obtain ⟨e0, l0⟩ := rB.row (y := 0) (by decide) (by omega)
  refine ck_wp (rgOk_s (by omega) (by omega) (by omega) (by omega)) ?_
  refine forO_wpN (fun n (s : TSt × List (List Cl)) => s.1.2 ≠ [] ∧ s.2.length = n ∧ ∀ r ∈ s.2, r.length = w ∧ ∀ p ∈ r, (0 ≤ p.1 ∧ p.1 ≤ 100) ∧ 0 ≤ p.2 ∧ p.2 ≤ 100) _ 0 _ ⟨ht, rfl, (fun _ m => nomatch m)⟩ (fun i s y hy hv kc hk => ?_) fun s hv => ?_
  · obtain ⟨t, A⟩ := s
    obtain ⟨ht, hl, hA⟩ := hv
    obtain ⟨rfl, hi⟩ := rng_is hy
    rw [Nat.zero_add] at hl hk
    dsimp only at ht hl hA ⊢
    refine ck_wp (decide_eq_true (by omega)) (bind_wp e0 ?_)
    rw [l0]
    refine ck_wp (rgOk_s (by omega) (by omega) (by omega) (by omega)) (forO_wpN (fun n (s2 : TSt × List (List Cl)) => s2.1.2 ≠ [] ∧ ∃ row, s2.2 = A ++ [row] ∧ row.length = n ∧ ∀ p ∈ row, (0 ≤ p.1 ∧ p.1 ≤ 100) ∧ 0 ≤ p.2 ∧ p.2 ≤ 100) _ 0 _ ⟨ht, [], rfl, rfl, (fun _ m => nomatch m)⟩ (fun j s2 x hx hv2 kc2 hk2 => ?_) fun s2 hv2 => ?_)
    · obtain ⟨t2, S⟩ := s2
      obtain ⟨ht2, row, rfl, lr, hr⟩ := hv2
      obtain ⟨rfl, hj⟩ := rng_is hx
      rw [Nat.zero_add] at lr hk2
      dsimp only at ht2 ⊢
      have ic : Ins w B.length ((j : Int), (i : Int)) := ⟨by dsimp only; omega, by dsimp only; omega, by dsimp only; omega, by dsimp only; omega⟩
      have q1 := bB ic
      have q2 := bD ic
      refine (rB.at (0, 0) (c := ((j : Int), (i : Int))) ic _).trans ((rD.at 0 (c := ((j : Int), (i : Int))) ic _).trans ((rB.at (0, 0) (c := ((j : Int), (i : Int))) ic _).trans ((rD.at 0 (c := ((j : Int), (i : Int))) ic _).trans ?_)))
      generalize gt (0, 0) B ((j : Int), (i : Int)) = pb at q1
      generalize gt 0 D ((j : Int), (i : Int)) = pd at q2
      obtain ⟨pb1, pb2⟩ := pb
      dsimp only at q1 ⊢
      have eix : ixN (A ++ [row]).length (i : Int) = some A.length := by rw [← hl]; exact ixN_nat (by simp)
      have fin2 : ∀ (z q : Int) (j' : TSt), 0 ≤ z → z ≤ 9 → 0 ≤ q → q ≤ 100 → j'.2 ≠ [] → ck (decide (List.length (List.getD (A ++ [row]) A.length []) < SZ)) (kc2 (j', List.set (A ++ [row]) A.length (List.getD (A ++ [row]) A.length [] ++ [((max (0 : Int) (max 0 (pb1 - pd) - z)), q)]))) = some true := fun z q j' z0 z1 q0 q1 hj => by
        rw [gget', gset']
        refine ck_wp (decide_eq_true (by omega)) (hk2 _ ⟨hj, _, rfl, by simp [lr], fun p m => ?_⟩)
        rcases List.mem_append.1 m with m | m
        · exact hr p m
        · simp at m; subst m; dsimp only; omega
      have fin : ∀ (z : Int) (j' : TSt), 0 ≤ z → z ≤ 9 → j'.2 ≠ [] → ((ixN (List.length (A ++ [row])) (i : Int)).bind fun n615 =>
          (takeM j' (7 : Int)).bind fun r620 =>
          if (decide (r620.1 = (0 : Int))) = true then ((takeM r620.2 (3 : Int)).bind fun r629 =>
          (atI ([max 0 (pb2 - pd), (max 0 (pb2 - pd) + (1 : Int)), max 0 (pb1 - pd)]) r629.1).bind fun y630 =>
          ck (decide (List.length (List.getD (A ++ [row]) n615 []) < SZ)) (kc2 (r629.2, List.set (A ++ [row]) n615 (List.getD (A ++ [row]) n615 [] ++ [((max (0 : Int) (max 0 (pb1 - pd) - z)), y630)])))) else (ck (decide (List.length (List.getD (A ++ [row]) n615 []) < SZ)) (kc2 (r620.2, List.set (A ++ [row]) n615 (List.getD (A ++ [row]) n615 [] ++ [((max (0 : Int) (max 0 (pb1 - pd) - z)), (max 0 (pb2 - pd) + z))]))))) = some true := fun z j' z0 z1 hj => by
        refine bind_wp eix (take_wp hj (by decide) (by decide) fun a t3 a0 a1 ht3 => ?_)
        dsimp only
        rw [ite_d]
        by_cases c : a = 0
        · rw [if_pos c]
          refine take_wp ht3 (by decide) (by decide) fun b t4 b0 b1 ht4 => ?_
          dsimp only
          obtain ⟨y, ey, y0, y1⟩ : ∃ y, atI ([max 0 (pb2 - pd), (max 0 (pb2 - pd) + (1 : Int)), max 0 (pb1 - pd)]) b = some y ∧ 0 ≤ y ∧ y ≤ 100 := by
            have : b = 0 ∨ b = 1 ∨ b = 2 := by omega
            rcases this with rfl | rfl | rfl
            · exact ⟨_, rfl, by omega, by omega⟩
            · exact ⟨_, rfl, by omega, by omega⟩
            · exact ⟨_, rfl, by omega, by omega⟩
          exact bind_wp ey (fin2 z y t4 z0 z1 y0 y1 ht4)
        · rw [if_neg c]
          exact fin2 z _ t3 z0 z1 (by omega) (by omega) ht3
      refine take_wp ht2 (by decide) (by decide) fun a t3 a0 a1 ht3 => ?_
      dsimp only
      rw [ite_d]
      by_cases c : a = 0
      · rw [if_pos c]
        refine take_wp ht3 (by decide) (by decide) fun b t4 b0 b1 ht4 => ?_
        dsimp only
        obtain ⟨y, ey, y0, y1⟩ : ∃ y, atI ([(0 : Int), (0 : Int), (1 : Int), (9 : Int)]) b = some y ∧ 0 ≤ y ∧ y ≤ 9 := by
          have : b = 0 ∨ b = 1 ∨ b = 2 ∨ b = 3 := by omega
          rcases this with rfl | rfl | rfl | rfl <;> exact ⟨_, rfl, by decide, by decide⟩
        exact bind_wp ey (fin y t4 y0 y1 ht4)
      · rw [if_neg c]
        exact fin 9 t3 (by decide) (by decide) ht3
    · obtain ⟨ht2, row, e, lr, hr⟩ := hv2
      rw [rng_len] at lr
      refine hk _ ⟨ht2, by rw [e]; simp [hl], fun r m => ?_⟩
      rw [e] at m
      rcases List.mem_append.1 m with m | m
      · exact hA r m
      · simp at m; subst m; exact ⟨by omega, hr⟩
  obtain ⟨t, W⟩ := s
  obtain ⟨ht, lW, hW⟩ := hv
  rw [rng_len] at lW
  dsimp only at ht lW hW ⊢
  have rW : Rc W w B.length := ⟨by omega, fun r m => (hW r m).1⟩
  have esr := (shT (shpC (pl_sh rB w5 h5 fun q m p mp => by have := tb.bd q m p mp; omega) (shpC (dl_sh rD w5 h5 fun q m p mp => by have := (hD q m).2 p mp; omega) (shpC (pl_sh rW w5 h5 fun q m p mp => (hW q m).2 p mp) shp0)))).repr
  refine bind_wp esr ?_
  have hc25 : (cellsL w B.length).length ≤ 25 := by
    rw [cells_len]; exact Nat.le_trans (Nat.mul_le_mul w5 h5) (by decide)
  have hc1 : 1 ≤ (cellsL w B.length).length := by
    rw [cells_len]; exact Nat.mul_le_mul w1 h1
  refine (tab_run rB h1 w5 h5 (rs B D) (fun x y i kc => (rB.at (0, 0) (c := (x, y)) i _).trans ((rD.at 0 (c := (x, y)) i _).trans ((rB.at (0, 0) (c := (x, y)) i _).trans (rD.at 0 (c := (x, y)) i _)))) _).trans ?_
  have rR := tab_rc w B.length (rs B D)
  refine (compO_filterMap (fun c => if bad1 B W D c = true then some c else none) () _ [] (by simp; omega) (fun c mc kc => ?_)).trans ?_
  · have i := mem_cells.1 mc
    refine bind_eq_of (b := bad1 B W D c) ((rR.at (0, 0) i _).trans ((rW.at (0, 0) i _).trans ?_)) ?_
    · rw [tab_gt _ i, ite_d]
      unfold bad1
      by_cases p : (rs B D c).2 < (gt (0, 0) W c).1
      · rw [if_pos p, decide_eq_true (.inl p)]
      · rw [if_neg p]
        refine (rR.at (0, 0) i _).trans ((rW.at (0, 0) i _).trans ?_)
        rw [tab_gt _ i]
        congr 1
        rw [decide_eq_decide]
        exact ⟨.inr, fun q => q.resolve_left p⟩
    · cases bad1 B W D c <;> rfl
  rw [List.nil_append]
  refine (compO_filterMap (fun c => if bad2 B W D c = true then some c else none) () _ [] (by simp; omega) (fun c mc kc => ?_)).trans ?_
  · have i := mem_cells.1 mc
    refine bind_eq_of (b := bad2 B W D c) ((rR.at (0, 0) i _).trans ((rW.at (0, 0) i _).trans ?_)) ?_
    · rw [tab_gt _ i, ite_d]
      unfold bad2
      by_cases p : (rs B D c).1 < (gt (0, 0) W c).1
      · rw [if_pos p, decide_eq_true (.inl p)]
      · rw [if_neg p]
        refine (rR.at (0, 0) i _).trans ((rW.at (0, 0) i _).trans ?_)
        rw [tab_gt _ i]
        congr 1
        rw [decide_eq_decide]
        exact ⟨.inr, fun q => q.resolve_left p⟩
    · cases bad2 B W D c <;> rfl
  rw [List.nil_append]
  refine bind_wp (a := verR B W D w B.length) ?_ ?_
  · unfold verR
    rcases filt_find (bad1 B W D) (cellsL w B.length) with ⟨e1, f1⟩ | ⟨c, tl, e1, f1⟩
    · rw [e1, f1]
      rcases filt_find (bad2 B W D) (cellsL w B.length) with ⟨e2, f2⟩ | ⟨c, tl, e2, f2⟩
      · rw [e2, f2]; rfl
      · rw [e2, f2]
        have : decide ((0 : Int) < ((c :: tl).length : Int)) = true := decide_eq_true (by simp only [List.length_cons]; omega)
        rw [this, show decide ((0 : Int) < (([] : List Cl).length : Int)) = false from rfl, ite_f, ite_t, atI_some (by decide) (by simp only [List.length_cons]; omega)]
        rfl
    · rw [e1, f1]
      have : decide ((0 : Int) < ((c :: tl).length : Int)) = true := decide_eq_true (by simp only [List.length_cons]; omega)
      rw [this, ite_t, atI_some (by decide) (by simp only [List.length_cons]; omega)]
      rfl
  have sv := ver_sh (B := B) (W := W) (D := D) w5 h5
  refine bind_wp (a := false) ?_ ?_
  · refine bind_wp (restof_ok rB rD w5 h5) ?_
    rw [decide_eq_true rfl, ite_nt]
    refine bind_wp (verdict_ok rB rD rW h1 w5 h5) ?_
    refine ck_wp (by show (SeqAt.shaped (verR B W D w B.length) && SeqAt.shaped (verR B W D w B.length)) = true; rw [sv]; rfl) ?_
    show (if (!PyData.eqv (verR B W D w B.length) (verR B W D w B.length)) = true then _ else _) = _
    rw [shaped_eqv sv, ite_nt]
    refine bind_wp esr ?_
    rw [decide_eq_true rfl]; rfl
  rw [ite_f]
  refine take_wp ht (by omega) (by omega) fun k1 t1 k10 k11 ht => ?_
  dsimp only
  obtain ⟨n1, hn1, rfl, en1⟩ := atI_pos (xs := cellsL w B.length) k10 k11
  refine bind_wp en1 (take_wp ht (by omega) (by omega) fun k2 t2 k20 k21 ht => ?_)
  dsimp only
  obtain ⟨n2, hn2, rfl, en2⟩ := atI_pos (xs := cellsL w B.length) k20 k21
  refine bind_wp en2 ?_
  have io := mem_cells.1 (List.getElem_mem hn1)
  generalize (cellsL w B.length)[n1] = one at io
  generalize (cellsL w B.length)[n2] = other
  obtain ⟨L0, L1, i0, i1, a0, a1, b0, b1⟩ := both_ok h1 w5 h5 (rs B D) io
  have lR := rR.lh
  have rows : ∀ (f : Cl → Int) (K : List (List Int) → Unit → Option Bool), compO (tabL w B.length (rs B D)) () (fun x802 (t801 : Unit) kc815 => (
                compO x802 () (fun x806 (t805 : Unit) kc811 => (
                  kc811 (some (f x806)) ())) [] fun (ys809 : List Int) (t810 : Unit) => (
                  kc815 (some ys809) ()))) [] K = K (tabL w B.length fun c => f (rs B D c)) () := fun f K => by
    refine (compO_map (fun row : List Cl => row.map f) () _ [] (by simp; omega) fun row mr kc => ?_).trans ?_
    · have := rR.lw row mr
      refine (compO_map f () _ [] (by simp; omega) fun _ _ _ => rfl).trans ?_
      rw [List.nil_append]
    · rw [List.nil_append]
      have := tab_map (w := w) (h := B.length) (F := rs B D) f
      rw [← this]
  refine (rows (fun p => p.1) _).trans (bind_wp b0 ?_)
  refine (rows (fun p => p.2) _).trans (bind_wp b1 ?_)
  refine bind_wp (hangs_ok rB rD w5 h5 (o := other) a0 a1) (bind_wp (a := hanR other L0 L1) ?_ ?_)
  · unfold hanR
    cases inB other L0 with
    | true => rfl
    | false => cases inB other L1 <;> rfl
  have sh := han_sh w5 h5 (o := other) i0 i1
  refine ck_wp (by show (SeqAt.shaped (hanR other L0 L1) && SeqAt.shaped (hanR other L0 L1)) = true; rw [sh]; rfl) ?_
  show (if (!PyData.eqv (hanR other L0 L1) (hanR other L0 L1)) = true then _ else _) = _
  rw [shaped_eqv sh, ite_nt]
  refine ck_wp (rgOk_s (by decide) (by decide) (by decide) (by decide)) (forO_wp (fun t : TSt => t.2 ≠ []) ht (fun t x mx ht kc hk => ?_) fun t ht => ?_)
  rotate_left
  · refine bind_wp esr ?_
    rw [decide_eq_true rfl]
  have xr := mem_rng.1 mx
  refine compO_rel (fun t : TSt => t.2 ≠ []) (fun (row : List Cl) (q : List Int) => q.length = row.length ∧ ∀ (j : Nat) p d, row[j]? = some p → q[j]? = some d → p.1 ≤ d ∧ d ≤ p.2) B t [] _ ht (by simp; omega) (fun t row mr ht kc2 hk2 => ?_) fun Pl t plen prel ht => ?_
  · have lr := rB.lw row mr
    refine compO_rel (fun t : TSt => t.2 ≠ []) (fun (p : Cl) (d : Int) => p.1 ≤ d ∧ d ≤ p.2) row t [] _ ht (by simp; omega) (fun t p mp ht kc3 hk3 => ?_) fun q t qlen qrel ht => ?_
    · have bp := tb.bd row mr p mp
      refine take_wp ht (by omega) (by omega) fun a t3 a0 a1 ht => ?_
      dsimp only
      obtain ⟨y, ey, y0, y1⟩ : ∃ y, atI ([p.1, p.2, (p.1 + a)]) (min x (2 : Int)) = some y ∧ p.1 ≤ y ∧ y ≤ p.2 := by
        have : min x (2 : Int) = 0 ∨ min x (2 : Int) = 1 ∨ min x (2 : Int) = 2 := by omega
        rcases this with e | e | e <;> rw [e]
        · exact ⟨_, rfl, by omega, by omega⟩
        · exact ⟨_, rfl, by omega, by omega⟩
        · exact ⟨_, rfl, by omega, by omega⟩
      exact bind_wp ey (hk3 _ _ ⟨y0, y1⟩ ht)
    · rw [List.nil_append]
      exact hk2 _ _ ⟨qlen, qrel⟩ ht
  rw [List.nil_append]
  have rP : Rc Pl w B.length := ⟨by omega, fun q mq => by
    obtain ⟨k, hk, ek⟩ := List.mem_iff_getElem.1 mq
    have hk' : k < B.length := by omega
    rw [← ek, (prel k B[k] Pl[k] (List.getElem?_eq_getElem hk') (List.getElem?_eq_getElem hk)).1]
    exact rB.lw _ (List.getElem_mem hk')⟩
  have bP : ∀ {c}, Ins w B.length c → (gt (0, 0) B c).1 ≤ gt 0 Pl c ∧ gt 0 Pl c ≤ (gt (0, 0) B c).2 := fun {c} i => by
    obtain ⟨h0, h1, h2, h3⟩ := i
    obtain ⟨x, y⟩ := c
    dsimp only at h0 h1 h2 h3
    obtain ⟨a, rfl⟩ := Int.eq_ofNat_of_zero_le h0
    obtain ⟨b, rfl⟩ := Int.eq_ofNat_of_zero_le h2
    have hb : b < B.length := by omega
    have hb' : b < Pl.length := by omega
    have r1 := rB.lw _ (List.getElem_mem hb)
    have r2 := rP.lw _ (List.getElem_mem hb')
    unfold gt
    simp only [Int.toNat_natCast, List.getD_eq_getElem?_getD, List.getElem?_eq_getElem hb, List.getElem?_eq_getElem hb', Option.getD_some]
    rw [List.getElem?_eq_getElem (show a < B[b].length by omega), List.getElem?_eq_getElem (show a < Pl[b].length by omega)]
    exact (prel b B[b] Pl[b] (List.getElem?_eq_getElem hb) (List.getElem?_eq_getElem hb')).2 a _ _ (List.getElem?_eq_getElem _) (List.getElem?_eq_getElem _)
  refine (tab_run rP h1 w5 h5 (fun c => max 0 (gt 0 Pl c - gt 0 D c)) (fun x y i kc => (rP.at 0 (c := (x, y)) i _).trans (rD.at 0 (c := (x, y)) i _)) _).trans ?_
  generalize hF : (fun c => max 0 (gt 0 Pl c - gt 0 D c)) = F
  have rF := tab_rc w B.length F
  have bF : ∀ {c}, Ins w B.length c → (rs B D c).1 ≤ F c ∧ F c ≤ (rs B D c).2 := fun {c} i => by
    have := bP i
    subst hF
    unfold rs
    dsimp only
    omega
  refine (compO_filterMap (fun c => if (gt (0, 0) W c).1 ≤ F c ∧ F c ≤ (gt (0, 0) W c).2 then none else some (1 : Int)) () _ [] (by simp; omega) (fun c mc kc => ?_)).trans ?_
  · have i := mem_cells.1 mc
    refine bind_eq_of (b := decide ((gt (0, 0) W c).1 ≤ F c ∧ F c ≤ (gt (0, 0) W c).2)) ((rW.at (0, 0) i _).trans ((rF.at 0 i _).trans ?_)) ?_
    · rw [tab_gt _ i, ite_d]
      by_cases p : (gt (0, 0) W c).1 ≤ F c
      · rw [if_pos p]
        refine (rW.at (0, 0) i _).trans ?_
        congr 1
        rw [decide_eq_decide]
        exact ⟨fun q => ⟨p, q⟩, fun q => q.2⟩
      · rw [if_neg p, decide_eq_false (fun q => p q.1)]
    · rw [ite_nd]
      split <;> rfl
  rw [List.nil_append]
  obtain ⟨Lp, ep, ip⟩ := lot_ok rF h1 w5 h5 io
  refine bind_wp ep ?_
  have ip' := ip.congr (pg_congr (g' := F) fun c ic => tab_gt (F := F) (0 : Int) ic)
  have up0 : other ∈ L0 → other ∈ Lp := fun m => (ip'.mem _).2 (((i0.mem _).1 m).mono fun c p => ⟨p.1, by have := bF p.1; have := p.2; dsimp only at this; omega⟩)
  have up1 : other ∈ Lp → other ∈ L1 := fun m => (i1.mem _).2 (((ip'.mem _).1 m).mono fun c p => ⟨p.1, by have := bF p.1; have := p.2; dsimp only; omega⟩)
  generalize hg : decide ((((cellsL w B.length).filterMap fun c => if (gt (0, 0) W c).1 ≤ F c ∧ F c ≤ (gt (0, 0) W c).2 then none else some (1 : Int)).length : Int) = (0 : Int)) = good
  have gt' : (∀ c ∈ cellsL w B.length, (gt (0, 0) W c).1 ≤ F c ∧ F c ≤ (gt (0, 0) W c).2) → good = true := fun a => by
    rw [← hg]
    refine decide_eq_true ?_
    have : ((cellsL w B.length).filterMap fun c => if (gt (0, 0) W c).1 ≤ F c ∧ F c ≤ (gt (0, 0) W c).2 then none else some (1 : Int)) = [] := by
      rw [List.filterMap_eq_nil_iff]
      exact fun c m => if_pos (a c m)
    rw [this]; rfl
  have gf : ∀ c ∈ cellsL w B.length, ¬ ((gt (0, 0) W c).1 ≤ F c ∧ F c ≤ (gt (0, 0) W c).2) → good = false := fun c m a => by
    rw [← hg]
    refine decide_eq_false fun e => ?_
    have := List.length_pos_of_mem (List.mem_filterMap.2 ⟨c, m, if_neg a⟩ : (1 : Int) ∈ ((cellsL w B.length).filterMap fun c => if (gt (0, 0) W c).1 ≤ F c ∧ F c ≤ (gt (0, 0) W c).2 then none else some (1 : Int)))
    omega
  refine bind_wp (a := false) ?_ ?_
  · unfold verR
    cases e1 : (cellsL w B.length).find? (bad1 B W D) with
    | some c =>
      have mc := List.mem_of_find?_eq_some e1
      have bc0 : bad1 B W D c = true := List.find?_some e1
      have bc := of_decide_eq_true bc0
      have := bF (mem_cells.1 mc)
      have g := gf c mc (by omega)
      subst g
      rfl
    | none =>
      cases e2 : (cellsL w B.length).find? (bad2 B W D) with
      | some c => rfl
      | none =>
        have g := gt' fun c mc => by
          have b := List.find?_eq_none.1 e2 c mc
          have b : ¬ ((rs B D c).1 < (gt (0, 0) W c).1 ∨ (gt (0, 0) W c).2 < (rs B D c).2) := fun z => b (decide_eq_true z)
          have := bF (mem_cells.1 mc)
          omega
        subst g
        rfl
  rw [ite_f]
  refine bind_wp (a := false) ?_ ?_
  · unfold hanR
    cases e1 : inB other L0 with
    | true =>
      have : inB other Lp = true := inB_iff.2 (up0 (inB_iff.1 e1))
      rw [this]; rfl
    | false =>
      cases e2 : inB other L1 with
      | true => rfl
      | false =>
        have : inB other Lp = false := not_inB fun m => by
          have := inB_iff.2 (up1 m)
          rw [e2] at this; cases this
        rw [this]; rfl
  rw [ite_f]
  exact hk _ ht

/-- what the law's call promises -/
def spLaw (K : Fg) : Sp := fun vs H Q _ => ∃ (a : Addr) (ns : List Int), vs = [.ref a] ∧ SqL K H a (ns.map V.int) ∧ ns.length ≤ 63 ∧ ∀ H', Q (.bl true) H'
theorem ok_end {P : Program} {w : World} {K : Fg} {mg : Str → Option Value} {base : Heap} (fa : Fa K mg) : FnG P w K mg base 4 fa.f_law fa.fd_law ["script"] (spLaw K) :=
  (ok_law fa 100).weak fun vs H Q E h => by
    obtain ⟨a, ns, rfl, hS, hlen, q⟩ := h
    exact law_sp hS (law_true ns hlen) q
theorem all_mk {l : PySem.W.OpenLaw} {w : World} {K : Fg} {h : Heap} {mg : Str → Option Value} {fz f0 f1 f2 f3 f4 f5 f6 f7 f8 f9 f10 f11 : Addr} (X : K.In h) (G : h.Ns mainGlobals mg) (hfa : mg "law" = some (.ref fz))
    {od0 an0 : Option Addr} {sl0 : Array (Option Value)} {oc0 kV0 dc0 pm0 cd0 ct0 : Value}
    (a0 : PySem.W.nsIn K mainGlobals "cells_in" = some (some (.ref f0))) (l0 : K.lookup f0 = some ⟨oc0, od0, .func (PySem.W.fnOf "cells_in" "cells_in" (defArgs s_cells_in) (defBody s_cells_in) (defScope s_cells_in) .none kV0 dc0 pm0 an0 cd0 ct0), sl0⟩) (c0 : PySem.W.codeIn K cd0 "cells_in" = true) (k0 : PySem.W.keepIn K (.ref f0) = true)
    {od1 an1 : Option Addr} {sl1 : Array (Option Value)} {oc1 kV1 dc1 pm1 cd1 ct1 : Value}
    (a1 : PySem.W.nsIn K mainGlobals "at" = some (some (.ref f1))) (l1 : K.lookup f1 = some ⟨oc1, od1, .func (PySem.W.fnOf "at" "at" (defArgs s_at) (defBody s_at) (defScope s_at) .none kV1 dc1 pm1 an1 cd1 ct1), sl1⟩) (c1 : PySem.W.codeIn K cd1 "at" = true) (k1 : PySem.W.keepIn K (.ref f1) = true)
    {od2 an2 : Option Addr} {sl2 : Array (Option Value)} {oc2 kV2 dc2 pm2 cd2 ct2 : Value}
    (a2 : PySem.W.nsIn K mainGlobals "rest_of" = some (some (.ref f2))) (l2 : K.lookup f2 = some ⟨oc2, od2, .func (PySem.W.fnOf "rest_of" "rest_of" (defArgs s_rest_of) (defBody s_rest_of) (defScope s_rest_of) .none kV2 dc2 pm2 an2 cd2 ct2), sl2⟩) (c2 : PySem.W.codeIn K cd2 "rest_of" = true) (k2 : PySem.W.keepIn K (.ref f2) = true)
    {od3 an3 : Option Addr} {sl3 : Array (Option Value)} {oc3 kV3 dc3 pm3 cd3 ct3 : Value}
    (a3 : PySem.W.nsIn K mainGlobals "verdict" = some (some (.ref f3))) (l3 : K.lookup f3 = some ⟨oc3, od3, .func (PySem.W.fnOf "verdict" "verdict" (defArgs s_verdict) (defBody s_verdict) (defScope s_verdict) .none kV3 dc3 pm3 an3 cd3 ct3), sl3⟩) (c3 : PySem.W.codeIn K cd3 "verdict" = true) (k3 : PySem.W.keepIn K (.ref f3) = true)
    {od4 an4 : Option Addr} {sl4 : Array (Option Value)} {oc4 kV4 dc4 pm4 cd4 ct4 : Value}
    (a4 : PySem.W.nsIn K mainGlobals "reach_from" = some (some (.ref f4))) (l4 : K.lookup f4 = some ⟨oc4, od4, .func (PySem.W.fnOf "reach_from" "reach_from" (defArgs s_reach_from) (defBody s_reach_from) (defScope s_reach_from) .none kV4 dc4 pm4 an4 cd4 ct4), sl4⟩) (c4 : PySem.W.codeIn K cd4 "reach_from" = true) (k4 : PySem.W.keepIn K (.ref f4) = true)
    {od5 an5 : Option Addr} {sl5 : Array (Option Value)} {oc5 kV5 dc5 pm5 cd5 ct5 : Value}
    (a5 : PySem.W.nsIn K mainGlobals "hangs" = some (some (.ref f5))) (l5 : K.lookup f5 = some ⟨oc5, od5, .func (PySem.W.fnOf "hangs" "hangs" (defArgs s_hangs) (defBody s_hangs) (defScope s_hangs) .none kV5 dc5 pm5 an5 cd5 ct5), sl5⟩) (c5 : PySem.W.codeIn K cd5 "hangs" = true) (k5 : PySem.W.keepIn K (.ref f5) = true)
    {od6 an6 : Option Addr} {sl6 : Array (Option Value)} {oc6 kV6 dc6 pm6 cd6 ct6 : Value}
    (a6 : PySem.W.nsIn K mainGlobals "_law_state" = some (some (.ref f6))) (l6 : K.lookup f6 = some ⟨oc6, od6, .func (PySem.W.fnOf "_law_state" "_law_state" (defArgs s__law_state) (defBody s__law_state) (defScope s__law_state) .none kV6 dc6 pm6 an6 cd6 ct6), sl6⟩) (c6 : PySem.W.codeIn K cd6 "_law_state" = true) (k6 : PySem.W.keepIn K (.ref f6) = true)
    {od7 an7 : Option Addr} {sl7 : Array (Option Value)} {oc7 kV7 dc7 pm7 cd7 ct7 : Value}
    (a7 : PySem.W.nsIn K mainGlobals "_law_take" = some (some (.ref f7))) (l7 : K.lookup f7 = some ⟨oc7, od7, .func (PySem.W.fnOf "_law_take" "_law_take" (defArgs s__law_take) (defBody s__law_take) (defScope s__law_take) .none kV7 dc7 pm7 an7 cd7 ct7), sl7⟩) (c7 : PySem.W.codeIn K cd7 "_law_take" = true) (k7 : PySem.W.keepIn K (.ref f7) = true)
    {od8 an8 : Option Addr} {sl8 : Array (Option Value)} {oc8 kV8 dc8 pm8 cd8 ct8 : Value}
    (a8 : PySem.W.nsIn K mainGlobals "_law_table" = some (some (.ref f8))) (l8 : K.lookup f8 = some ⟨oc8, od8, .func (PySem.W.fnOf "_law_table" "_law_table" (defArgs s__law_table) (defBody s__law_table) (defScope s__law_table) .none kV8 dc8 pm8 an8 cd8 ct8), sl8⟩) (c8 : PySem.W.codeIn K cd8 "_law_table" = true) (k8 : PySem.W.keepIn K (.ref f8) = true)
    {od9 an9 : Option Addr} {sl9 : Array (Option Value)} {oc9 kV9 dc9 pm9 cd9 ct9 : Value}
    (a9 : PySem.W.nsIn K mainGlobals "_law_cells" = some (some (.ref f9))) (l9 : K.lookup f9 = some ⟨oc9, od9, .func (PySem.W.fnOf "_law_cells" "_law_cells" (defArgs s__law_cells) (defBody s__law_cells) (defScope s__law_cells) .none kV9 dc9 pm9 an9 cd9 ct9), sl9⟩) (c9 : PySem.W.codeIn K cd9 "_law_cells" = true) (k9 : PySem.W.keepIn K (.ref f9) = true)
    {od10 an10 : Option Addr} {sl10 : Array (Option Value)} {oc10 kV10 dc10 pm10 cd10 ct10 : Value}
    (a10 : PySem.W.nsIn K mainGlobals "_law_lot" = some (some (.ref f10))) (l10 : K.lookup f10 = some ⟨oc10, od10, .func (PySem.W.fnOf "_law_lot" "_law_lot" (defArgs s__law_lot) (defBody s__law_lot) (defScope s__law_lot) .none kV10 dc10 pm10 an10 cd10 ct10), sl10⟩) (c10 : PySem.W.codeIn K cd10 "_law_lot" = true) (k10 : PySem.W.keepIn K (.ref f10) = true)
    {od11 an11 : Option Addr} {sl11 : Array (Option Value)} {oc11 kV11 dc11 pm11 cd11 ct11 : Value}
    (a11 : PySem.W.nsIn K mainGlobals "law" = some (some (.ref f11))) (l11 : K.lookup f11 = some ⟨oc11, od11, .func (PySem.W.fnOf "law" "law" (defArgs s_law) (defBody s_law) (defScope s_law) .none kV11 dc11 pm11 an11 cd11 ct11), sl11⟩) (c11 : PySem.W.codeIn K cd11 "law" = true) (k11 : PySem.W.keepIn K (.ref f11) = true)
    (z_abs : PySem.W.nsIn K mainGlobals "abs" = some none)
    (z_enumerate : PySem.W.nsIn K mainGlobals "enumerate" = some none)
    (z_int : PySem.W.nsIn K mainGlobals "int" = some none)
    (z_len : PySem.W.nsIn K mainGlobals "len" = some none)
    (z_list : PySem.W.nsIn K mainGlobals "list" = some none)
    (z_max : PySem.W.nsIn K mainGlobals "max" = some none)
    (z_min : PySem.W.nsIn K mainGlobals "min" = some none)
    (z_range : PySem.W.nsIn K mainGlobals "range" = some none)
    (z_repr : PySem.W.nsIn K mainGlobals "repr" = some none)
    (z_sorted : PySem.W.nsIn K mainGlobals "sorted" = some none) :
    ∃ fd : FuncData, (∀ (s : Shared) (v : Value), BindsTo s fd ⟨[v], []⟩ [("script", v)]) ∧ ∀ base : Heap, K.In base → base.Ns mainGlobals mg → FnG l.prog w K mg base 4 fz fd ["script"] (spLaw K) := by
  have e := hfa.symm.trans (PySem.W.mg_of X G a11)
  cases e
  exact ⟨PySem.W.fnOf "law" "law" (defArgs s_law) (defBody s_law) (defScope s_law) .none kV11 dc11 pm11 an11 cd11 ct11, fun s v => .of_eq rfl, fun base _ _ => ok_end (fa := { f_cells_in := f0, fd_cells_in := PySem.W.fnOf "cells_in" "cells_in" (defArgs s_cells_in) (defBody s_cells_in) (defScope s_cells_in) .none kV0 dc0 pm0 an0 cd0 ct0, F_cells_in := fun_mk (st := s_cells_in) l0 c0 k0, g_cells_in := PySem.W.mg_of X G a0, b_cells_in := (fun_mk (st := s_cells_in) l0 c0 k0).binds fun _ _ _ _ _ _ us hl => match us, hl with | [_], _ => rfl, f_at := f1, fd_at := PySem.W.fnOf "at" "at" (defArgs s_at) (defBody s_at) (defScope s_at) .none kV1 dc1 pm1 an1 cd1 ct1, F_at := fun_mk (st := s_at) l1 c1 k1, g_at := PySem.W.mg_of X G a1, b_at := (fun_mk (st := s_at) l1 c1 k1).binds fun _ _ _ _ _ _ us hl => match us, hl with | [_, _], _ => rfl, f_rest_of := f2, fd_rest_of := PySem.W.fnOf "rest_of" "rest_of" (defArgs s_rest_of) (defBody s_rest_of) (defScope s_rest_of) .none kV2 dc2 pm2 an2 cd2 ct2, F_rest_of := fun_mk (st := s_rest_of) l2 c2 k2, g_rest_of := PySem.W.mg_of X G a2, b_rest_of := (fun_mk (st := s_rest_of) l2 c2 k2).binds fun _ _ _ _ _ _ us hl => match us, hl with | [_, _], _ => rfl, f_verdict := f3, fd_verdict := PySem.W.fnOf "verdict" "verdict" (defArgs s_verdict) (defBody s_verdict) (defScope s_verdict) .none kV3 dc3 pm3 an3 cd3 ct3, F_verdict := fun_mk (st := s_verdict) l3 c3 k3, g_verdict := PySem.W.mg_of X G a3, b_verdict := (fun_mk (st := s_verdict) l3 c3 k3).binds fun _ _ _ _ _ _ us hl => match us, hl with | [_, _, _], _ => rfl, f_reach_from := f4, fd_reach_from := PySem.W.fnOf "reach_from" "reach_from" (defArgs s_reach_from) (defBody s_reach_from) (defScope s_reach_from) .none kV4 dc4 pm4 an4 cd4 ct4, F_reach_from := fun_mk (st := s_reach_from) l4 c4 k4, g_reach_from := PySem.W.mg_of X G a4, b_reach_from := (fun_mk (st := s_reach_from) l4 c4 k4).binds fun _ _ _ _ _ _ us hl => match us, hl with | [_, _, _], _ => rfl, f_hangs := f5, fd_hangs := PySem.W.fnOf "hangs" "hangs" (defArgs s_hangs) (defBody s_hangs) (defScope s_hangs) .none kV5 dc5 pm5 an5 cd5 ct5, F_hangs := fun_mk (st := s_hangs) l5 c5 k5, g_hangs := PySem.W.mg_of X G a5, b_hangs := (fun_mk (st := s_hangs) l5 c5 k5).binds fun _ _ _ _ _ _ us hl => match us, hl with | [_, _, _, _], _ => rfl, f__law_state := f6, fd__law_state := PySem.W.fnOf "_law_state" "_law_state" (defArgs s__law_state) (defBody s__law_state) (defScope s__law_state) .none kV6 dc6 pm6 an6 cd6 ct6, F__law_state := fun_mk (st := s__law_state) l6 c6 k6, g__law_state := PySem.W.mg_of X G a6, b__law_state := (fun_mk (st := s__law_state) l6 c6 k6).binds fun _ _ _ _ _ _ us hl => match us, hl with | [_], _ => rfl, f__law_take := f7, fd__law_take := PySem.W.fnOf "_law_take" "_law_take" (defArgs s__law_take) (defBody s__law_take) (defScope s__law_take) .none kV7 dc7 pm7 an7 cd7 ct7, F__law_take := fun_mk (st := s__law_take) l7 c7 k7, g__law_take := PySem.W.mg_of X G a7, b__law_take := (fun_mk (st := s__law_take) l7 c7 k7).binds fun _ _ _ _ _ _ us hl => match us, hl with | [_, _], _ => rfl, f__law_table := f8, fd__law_table := PySem.W.fnOf "_law_table" "_law_table" (defArgs s__law_table) (defBody s__law_table) (defScope s__law_table) .none kV8 dc8 pm8 an8 cd8 ct8, F__law_table := fun_mk (st := s__law_table) l8 c8 k8, g__law_table := PySem.W.mg_of X G a8, b__law_table := (fun_mk (st := s__law_table) l8 c8 k8).binds fun _ _ _ _ _ _ us hl => match us, hl with | [_], _ => rfl, f__law_cells := f9, fd__law_cells := PySem.W.fnOf "_law_cells" "_law_cells" (defArgs s__law_cells) (defBody s__law_cells) (defScope s__law_cells) .none kV9 dc9 pm9 an9 cd9 ct9, F__law_cells := fun_mk (st := s__law_cells) l9 c9 k9, g__law_cells := PySem.W.mg_of X G a9, b__law_cells := (fun_mk (st := s__law_cells) l9 c9 k9).binds fun _ _ _ _ _ _ us hl => match us, hl with | [_], _ => rfl, f__law_lot := f10, fd__law_lot := PySem.W.fnOf "_law_lot" "_law_lot" (defArgs s__law_lot) (defBody s__law_lot) (defScope s__law_lot) .none kV10 dc10 pm10 an10 cd10 ct10, F__law_lot := fun_mk (st := s__law_lot) l10 c10 k10, g__law_lot := PySem.W.mg_of X G a10, b__law_lot := (fun_mk (st := s__law_lot) l10 c10 k10).binds fun _ _ _ _ _ _ us hl => match us, hl with | [_, _], _ => rfl, f_law := fz, fd_law := PySem.W.fnOf "law" "law" (defArgs s_law) (defBody s_law) (defScope s_law) .none kV11 dc11 pm11 an11 cd11 ct11, F_law := fun_mk (st := s_law) l11 c11 k11, g_law := PySem.W.mg_of X G a11, b_law := (fun_mk (st := s_law) l11 c11 k11).binds fun _ _ _ _ _ _ us hl => match us, hl with | [_], _ => rfl, z_abs := PySem.W.mg_none_of X G z_abs, z_enumerate := PySem.W.mg_none_of X G z_enumerate, z_int := PySem.W.mg_none_of X G z_int, z_len := PySem.W.mg_none_of X G z_len, z_list := PySem.W.mg_none_of X G z_list, z_max := PySem.W.mg_none_of X G z_max, z_min := PySem.W.mg_none_of X G z_min, z_range := PySem.W.mg_none_of X G z_range, z_repr := PySem.W.mg_none_of X G z_repr, z_sorted := PySem.W.mg_none_of X G z_sorted })⟩
end My
open PySem PySem.W PyProof.Rows
set_option maxHeartbeats 0 in
theorem PySem.Challenge.cw_cutwright_k51_whole_uneven_verdicts_holds : PySem.Challenge.rw_cutwright_k51_whole_uneven_verdicts.Holds := by
  w_on; o_law; k_head; (case hw => w_witness2)
  k_fill
  refine Z.walkG (l := PySem.Challenge.rw_cutwright_k51_whole_uneven_verdicts) (n := 63) (k := 4) (x := "script") (sp := fun w => My.spLaw _) rfl (by decide) rfl ⟨rfl, by decide, by decide⟩ (fun w h Y => PySem.W.kIn_of Y) ?F (fun _ _ a ns hl _ hS => ⟨a, ns, rfl, hS, hl, fun _ => rfl⟩)
  case F =>
    intro w mg fa h KX G hmg
    refine' My.all_mk KX G hmg ?a0 ?l0 ?c0 ?k0 ?a1 ?l1 ?c1 ?k1 ?a2 ?l2 ?c2 ?k2 ?a3 ?l3 ?c3 ?k3 ?a4 ?l4 ?c4 ?k4 ?a5 ?l5 ?c5 ?k5 ?a6 ?l6 ?c6 ?k6 ?a7 ?l7 ?c7 ?k7 ?a8 ?l8 ?c8 ?k8 ?a9 ?l9 ?c9 ?k9 ?a10 ?l10 ?c10 ?k10 ?a11 ?l11 ?c11 ?k11 ?z_abs ?z_enumerate ?z_int ?z_len ?z_list ?z_max ?z_min ?z_range ?z_repr ?z_sorted
    (case a0 => k_is); (case l0 => k_is); (case c0 => k_is); (case k0 => k_is)
    (case a1 => k_is); (case l1 => k_is); (case c1 => k_is); (case k1 => k_is)
    (case a2 => k_is); (case l2 => k_is); (case c2 => k_is); (case k2 => k_is)
    (case a3 => k_is); (case l3 => k_is); (case c3 => k_is); (case k3 => k_is)
    (case a4 => k_is); (case l4 => k_is); (case c4 => k_is); (case k4 => k_is)
    (case a5 => k_is); (case l5 => k_is); (case c5 => k_is); (case k5 => k_is)
    (case a6 => k_is); (case l6 => k_is); (case c6 => k_is); (case k6 => k_is)
    (case a7 => k_is); (case l7 => k_is); (case c7 => k_is); (case k7 => k_is)
    (case a8 => k_is); (case l8 => k_is); (case c8 => k_is); (case k8 => k_is)
    (case a9 => k_is); (case l9 => k_is); (case c9 => k_is); (case k9 => k_is)
    (case a10 => k_is); (case l10 => k_is); (case c10 => k_is); (case k10 => k_is)
    (case a11 => k_is); (case l11 => k_is); (case c11 => k_is); (case k11 => k_is)
    (case z_abs => k_is)
    (case z_enumerate => k_is)
    (case z_int => k_is)
    (case z_len => k_is)
    (case z_list => k_is)
    (case z_max => k_is)
    (case z_min => k_is)
    (case z_range => k_is)
    (case z_repr => k_is)
    (case z_sorted => k_is)

