import PyProof.Rows.All
import Wide.All
import OpenK.AllK
import Wide.FinOn
import KE.KStateDown
import Lean
import HandS.ForMost
import HandS.WordsExc
import HandS.Defaults
import HandS.SortInts
import HandS.SetFor
import HandS.Strs
import HandS.Conv
import HandS.Zip
import HandS.Walk
import HandS.TupAny
import HandS.TupMul
import HandS.WideBits
import HandS.Rev
import HandS.IsInst
import HandS.Style
import HandS.Head0
import HandS.Head1
import HandS.Head2
import HandS.HeadEnd
import HandS.HeadHook1
import HandS.HeadHook2
import HandS.HeadHook3
import PySem.Challenge.RW_restitch_k23_tables_that_hold
set_option Elab.async false
set_option linter.all false
set_option maxRecDepth 100000
set_option maxHeartbeats 4000000
/-! DL, part 1: values as data or as own objects, a store of own objects, judgements over expressions and statements -/
namespace K23
open PySem PySem.Spec PyProof.Rows L2

abbrev Fg := PySem.W.Frag
/-- a value: plain data, or the place of an own object -/
inductive SV where
  | d (x : PyData)
  | r (a : Addr)
/-- an own object: a list, a dict -/
inductive MO where
  | lst (xs : List SV)
  | dct (kvs : List (Key × SV))
  | lck (o : HO) (kvs : List (Key × SV))
abbrev Sto := Addr → Option MO
def supd (S : Sto) (a : Addr) (o : MO) : Sto := fun b => if b = a then some o else S b
theorem supd_same {S : Sto} {a : Addr} {o : MO} : supd S a o a = some o := if_pos rfl
theorem supd_ne {S : Sto} {a b : Addr} {o : MO} (h : b ≠ a) : supd S a o b = S b := if_neg h
theorem supd_supd {S : Sto} {a : Addr} {o u : MO} : supd (supd S a o) a u = supd S a u := by
  funext b; unfold supd; split <;> rfl
def SLe (S S' : Sto) : Prop := ∀ a o, S a = some o → S' a = some o
theorem SLe.refl (S : Sto) : SLe S S := fun _ _ h => h
theorem SLe.trans {S T U : Sto} (a : SLe S T) (b : SLe T U) : SLe S U := fun x o h => b x o (a x o h)
theorem SLe.new {S T : Sto} (h : SLe S T) {a : Addr} {o : MO} (hn : S a = none) : SLe S (supd T a o) := fun b u e => by
  by_cases hb : b = a
  · subst hb; rw [hn] at e; cases e
  · rw [supd_ne hb]; exact h b u e
theorem SLe.free {S T : Sto} (h : SLe S T) {a : Addr} (hn : T a = none) : S a = none := by
  cases e : S a with
  | none => rfl
  | some o => have z := h a o e; rw [hn] at z; cases z
abbrev Dl := List (Option SV)

section
variable {K : Fg} {F F' : Hp}
theorem sqT_mono (e : Same F F') {a : Addr} {xs : List V} (h : SqT K F a xs) : SqT K F' a xs := by
  rcases h with (h | ⟨o, h⟩) | h
  · exact .inl (.inl (e _ _ h))
  · exact .inl (.inr ⟨o, e _ _ h⟩)
  · exact .inr h
mutual
theorem dp_mono (e : Same F F') : ∀ {v : V} {d : PyData}, Dp K F v d → Dp K F' v d
  | _, _, .non => .non
  | _, _, .bl b => .bl b
  | _, _, .int i => .int i
  | _, _, .str x => .str x
  | _, _, .lst h t => .lst (e.seq h) (dpAll_mono e t)
  | _, _, .tup h t => .tup (sqT_mono e h) (dpAll_mono e t)
theorem dpAll_mono (e : Same F F') : ∀ {vs : List V} {ds : List PyData}, DpAll K F vs ds → DpAll K F' vs ds
  | _, _, .nil => .nil
  | _, _, .cons h t => .cons (dp_mono e h) (dpAll_mono e t)
end
end

def RepV (K : Fg) (F : Hp) (v : V) : SV → Prop
  | .d x => Dp K F v x
  | .r a => v = .ref a
abbrev RepL (K : Fg) (F : Hp) : List V → List SV → Prop := Paired (RepV K F)
abbrev RepK (K : Fg) (F : Hp) : List (Key × V) → List (Key × SV) → Prop := Paired fun (p : Key × V) (q : Key × SV) => p.1 = q.1 ∧ RepV K F p.2 q.2
def RepO (K : Fg) (F : Hp) (o : HO) : MO → Prop
  | .lst xs => ∃ vs, o = .lst vs ∧ RepL K F vs xs
  | .dct kxs => ∃ kvs, o = .dK kvs ∧ RepK K F kvs kxs
  | .lck u kxs => o = u ∧ ∃ od kvs, u = .frz od (.dK kvs) ∧ RepK K F kvs kxs
theorem repV_mono {K : Fg} {F F' : Hp} (e : Same F F') {v : V} {x : SV} (h : RepV K F v x) : RepV K F' v x := by
  cases x with
  | d x => exact dp_mono e h
  | r a => exact h
theorem repL_mono {K : Fg} {F F' : Hp} (e : Same F F') {vs : List V} {xs : List SV} (h : RepL K F vs xs) : RepL K F' vs xs := Paired.mapP h fun _ _ => repV_mono e
theorem repK_mono {K : Fg} {F F' : Hp} (e : Same F F') {vs : List (Key × V)} {xs : List (Key × SV)} (h : RepK K F vs xs) : RepK K F' vs xs := Paired.mapP h fun _ _ z => ⟨z.1, repV_mono e z.2⟩
theorem repO_mono {K : Fg} {F F' : Hp} (e : Same F F') {o : HO} {m : MO} (h : RepO K F o m) : RepO K F' o m := by
  cases m with
  | lst xs => obtain ⟨vs, e1, r⟩ := h; exact ⟨vs, e1, repL_mono e r⟩
  | dct kxs => obtain ⟨vs, e1, r⟩ := h; exact ⟨vs, e1, repK_mono e r⟩
  | lck u kxs => obtain ⟨e0, od, vs, e1, r⟩ := h; exact ⟨e0, od, vs, e1, repK_mono e r⟩
theorem repL_d {K : Fg} {F : Hp} {vs : List V} {ds : List PyData} (h : RepL K F vs (ds.map SV.d)) : DpAll K F vs ds := by
  induction ds generalizing vs with
  | nil => cases h; exact .nil
  | cons d ds ih =>
    cases h with
    | cons h t => exact .cons h (ih t)
theorem repL_of {K : Fg} {F : Hp} {vs : List V} {ds : List PyData} (h : DpAll K F vs ds) : RepL K F vs (ds.map SV.d) := by
  induction ds generalizing vs with
  | nil => cases h; exact .nil
  | cons d ds ih =>
    cases h with
    | cons h t => exact .cons h (ih t)
theorem repL_get {K : Fg} {F : Hp} {vs : List V} {ds : List SV} {i : Nat} {d : SV} (h : RepL K F vs ds) (e : ds[i]? = some d) : ∃ v, vs[i]? = some v ∧ RepV K F v d := by
  induction h generalizing i with
  | nil => simp at e
  | @cons v x vs xs r t ih =>
    cases i with
    | zero => simp at e; subst e; exact ⟨v, rfl, r⟩
    | succ i =>
      obtain ⟨v', h1, h2⟩ := ih (i := i) (by simpa using e)
      exact ⟨v', by simpa using h1, h2⟩
theorem repL_get' {K : Fg} {F : Hp} {vs : List V} {ds : List SV} {i : Nat} {v : V} (h : RepL K F vs ds) (e : vs[i]? = some v) : ∃ d, ds[i]? = some d ∧ RepV K F v d := by
  induction h generalizing i with
  | nil => simp at e
  | @cons w x vs xs r t ih =>
    cases i with
    | zero => simp at e; subst e; exact ⟨x, rfl, r⟩
    | succ i =>
      obtain ⟨v', h1, h2⟩ := ih (i := i) (by simpa using e)
      exact ⟨v', by simpa using h1, h2⟩
theorem repL_len {K : Fg} {F : Hp} {vs : List V} {ds : List SV} (h : RepL K F vs ds) : vs.length = ds.length := Paired.length h
theorem dpAll_len {K : Fg} {F : Hp} {vs : List V} {ds : List PyData} (h : DpAll K F vs ds) : vs.length = ds.length := by
  have z := repL_len (repL_of h)
  rw [List.length_map] at z
  exact z
theorem dpAll_get {K : Fg} {F : Hp} {vs : List V} {ds : List PyData} {i : Nat} {d : PyData} (h : DpAll K F vs ds) (e : ds[i]? = some d) : ∃ v, vs[i]? = some v ∧ Dp K F v d :=
  repL_get (d := .d d) (repL_of h) (by rw [List.getElem?_map, e]; rfl)
theorem dpAll_get' {K : Fg} {F : Hp} {vs : List V} {ds : List PyData} {i : Nat} {v : V} (h : DpAll K F vs ds) (e : vs[i]? = some v) : ∃ d, ds[i]? = some d ∧ Dp K F v d := by
  obtain ⟨x, h1, h2⟩ := repL_get' (repL_of h) e
  rw [List.getElem?_map] at h1
  cases q : ds[i]? with
  | none => rw [q] at h1; cases h1
  | some d => rw [q] at h1; cases h1; exact ⟨d, rfl, h2⟩

/-- the heap H: what stands outside (O), the plain data's part F, the own objects S -/
structure Mem (K : Fg) (O H F : Hp) (S : Sto) : Prop where
  out : ∀ a o, O a = some o → H a = some o ∧ F a = none ∧ S a = none
  fr : Same F H
  dis : ∀ a o, S a = some o → F a = none
  sto : ∀ a o, S a = some o → ∃ ho, H a = some ho ∧ RepO K F ho o
section
variable {K : Fg} {O H F : Hp} {S S' : Sto}
theorem Mem.sub (M : Mem K O H F S) (h : SLe S' S) : Mem K O H F S' :=
  ⟨fun a o e => ⟨(M.out a o e).1, (M.out a o e).2.1, h.free (M.out a o e).2.2⟩, M.fr, fun a o e => M.dis a o (h a o e), fun a o e => M.sto a o (h a o e)⟩
theorem Mem.nF (M : Mem K O H F S) {p : Addr} (h : H p = none) : F p = none := M.fr.free h
theorem Mem.nS (M : Mem K O H F S) {p : Addr} (h : H p = none) : S p = none := by
  cases e : S p with
  | none => rfl
  | some o => obtain ⟨ho, e1, _⟩ := M.sto p o e; rw [h] at e1; cases e1
theorem Mem.nO (M : Mem K O H F S) {p : Addr} (h : H p = none) : O p = none := by
  cases e : O p with
  | none => rfl
  | some o => have z := (M.out p o e).1; rw [h] at z; cases z
theorem same_upd {H : Hp} {p : Addr} {o : HO} (h : H p = none) : Same H (upd H p o) := fun b u q => by rw [upd_ne (ne_of_none q h)]; exact q
/-- a new plain object -/
theorem Mem.data (M : Mem K O H F S) {p : Addr} (o : HO) (h : H p = none) : Mem K O (upd H p o) (upd F p o) S := by
  refine ⟨fun a u e => ?_, fun a u e => ?_, fun a u e => ?_, fun a u e => ?_⟩
  · have ne : a ≠ p := ne_of_none e (M.nO h)
    rw [upd_ne ne, upd_ne ne]; exact M.out a u e
  · by_cases ha : a = p
    · subst ha; rw [upd_same] at e ⊢; exact e
    · rw [upd_ne ha] at e ⊢; exact M.fr a u e
  · have ne : a ≠ p := fun z => by subst z; rw [M.nS h] at e; cases e
    rw [upd_ne ne]; exact M.dis a u e
  · have ne : a ≠ p := fun z => by subst z; rw [M.nS h] at e; cases e
    obtain ⟨ho, e1, e2⟩ := M.sto a u e
    exact ⟨ho, by rw [upd_ne ne]; exact e1, repO_mono (same_upd (M.nF h)) e2⟩
/-- a new own object -/
theorem Mem.own (M : Mem K O H F S) {p : Addr} {o : HO} {m : MO} (h : H p = none) (r : RepO K F o m) : Mem K O (upd H p o) F (supd S p m) := by
  refine ⟨fun a u e => ?_, fun a u e => ?_, fun a u e => ?_, fun a u e => ?_⟩
  · have ne : a ≠ p := ne_of_none e (M.nO h)
    rw [upd_ne ne, supd_ne ne]; exact M.out a u e
  · have ne : a ≠ p := ne_of_none e (M.nF h)
    rw [upd_ne ne]; exact M.fr a u e
  · by_cases ha : a = p
    · subst ha; exact M.nF h
    · rw [supd_ne ha] at e; exact M.dis a u e
  · by_cases ha : a = p
    · subst ha; rw [supd_same] at e; cases e; exact ⟨o, upd_same, r⟩
    · rw [supd_ne ha] at e
      obtain ⟨ho, e1, e2⟩ := M.sto a u e
      exact ⟨ho, by rw [upd_ne ha]; exact e1, e2⟩
/-- an own object is changed -/
theorem Mem.put (M : Mem K O H F S) {p : Addr} {o : HO} {m m' : MO} (h : S p = some m') (r : RepO K F o m) : Mem K O (upd H p o) F (supd S p m) := by
  refine ⟨fun a u e => ?_, fun a u e => ?_, fun a u e => ?_, fun a u e => ?_⟩
  · have ne : a ≠ p := fun z => by subst z; have z := (M.out a u e).2.2; rw [h] at z; cases z
    rw [upd_ne ne, supd_ne ne]; exact M.out a u e
  · have ne : a ≠ p := fun z => by subst z; have z := M.dis a _ h; rw [e] at z; cases z
    rw [upd_ne ne]; exact M.fr a u e
  · by_cases ha : a = p
    · subst ha; exact M.dis a _ h
    · rw [supd_ne ha] at e; exact M.dis a u e
  · by_cases ha : a = p
    · subst ha; rw [supd_same] at e; cases e; exact ⟨o, upd_same, r⟩
    · rw [supd_ne ha] at e
      obtain ⟨ho, e1, e2⟩ := M.sto a u e
      exact ⟨ho, by rw [upd_ne ha]; exact e1, e2⟩
/-- an own object becomes plain data -/
theorem Mem.freeze (M : Mem K O H F S) {p : Addr} {m : MO} (h : S p = some m) (hl : SLe S' S) (hn : S' p = none) : ∃ ho, H p = some ho ∧ RepO K F ho m ∧ F p = none ∧ Mem K O H (upd F p ho) S' := by
  obtain ⟨ho, e1, e2⟩ := M.sto p m h
  have nf := M.dis p m h
  refine ⟨ho, e1, e2, nf, fun a u e => ?_, fun a u e => ?_, fun a u e => ?_, fun a u e => ?_⟩
  · have ne : a ≠ p := fun z => by subst z; have z := (M.out a u e).2.2; rw [h] at z; cases z
    rw [upd_ne ne]; exact ⟨(M.out a u e).1, (M.out a u e).2.1, hl.free (M.out a u e).2.2⟩
  · by_cases ha : a = p
    · subst ha; rw [upd_same] at e; cases e; exact e1
    · rw [upd_ne ha] at e; exact M.fr a u e
  · have ne : a ≠ p := fun z => by subst z; rw [hn] at e; cases e
    rw [upd_ne ne]; exact M.dis a u (hl a u e)
  · obtain ⟨ho', e3, e4⟩ := M.sto a u (hl a u e)
    exact ⟨ho', e3, repO_mono (same_upd nf) e4⟩
end

def Slots (K : Fg) (F : Hp) (σ : L2.St) (δ : Dl) : Prop := σ.length = δ.length ∧ ∀ (i : Nat) (x : SV), δ[i]? = some (some x) → ∃ v, σ[i]? = some (some v) ∧ RepV K F v x
theorem Slots.mono {K : Fg} {F F' : Hp} {σ : L2.St} {δ : Dl} (s : Slots K F σ δ) (e : Same F F') : Slots K F' σ δ :=
  ⟨s.1, fun i x h => let ⟨v, a, b⟩ := s.2 i x h; ⟨v, a, repV_mono e b⟩⟩
theorem Slots.set {K : Fg} {F : Hp} {σ : L2.St} {δ : Dl} (s : Slots K F σ δ) (i : Nat) {v : V} {x : SV} (r : RepV K F v x) : Slots K F (σ.set i (some v)) (δ.set i (some x)) := by
  refine ⟨by rw [List.length_set, List.length_set]; exact s.1, fun j y h => ?_⟩
  by_cases hj : i = j
  · subst hj
    rw [List.getElem?_set] at h ⊢
    simp only [if_pos] at h ⊢
    by_cases hl : i < δ.length
    · rw [if_pos hl] at h
      rw [if_pos (by rw [s.1]; exact hl)]
      cases h
      exact ⟨v, rfl, r⟩
    · rw [if_neg hl] at h; cases h
  · rw [List.getElem?_set_ne hj] at h ⊢
    exact s.2 j y h
theorem Slots.none {K : Fg} {F : Hp} {σ : L2.St} {δ : Dl} (s : Slots K F σ δ) (i : Nat) {o : Option V} : Slots K F (σ.set i o) (δ.set i Option.none) := by
  refine ⟨by rw [List.length_set, List.length_set]; exact s.1, fun j y h => ?_⟩
  by_cases hj : i = j
  · subst hj
    rw [List.getElem?_set] at h
    simp only [if_pos] at h
    split at h <;> cases h
  · rw [List.getElem?_set_ne hj] at h ⊢
    exact s.2 j y h

/-! ### semantic readings -/
def wpE (X : Cx) (e : Expr) : TE := fun σ H Q => ∀ (pins : List (Addr × Obj)) (s : Shared), Inv X pins σ H s → wpAny (model X.prog X.w) X.A (eval e X.env) (EP X pins σ Q) X.xe s
def wpT (X : Cx) (e : Expr) : TT := fun σ H Q => ∀ (pins : List (Addr × Obj)) (s : Shared), Inv X pins σ H s → wpAny (model X.prog X.w) X.A (isTrue e X.env (eval e X.env)) (TP X pins σ Q) X.xe s
def wpW (X : Cx) (e : Expr) : TT := fun σ H Q => ∀ (whole : Sem Value) (pins : List (Addr × Obj)) (s : Shared), Inv X pins σ H s → wpAny (model X.prog X.w) X.A (isTrue e X.env whole) (TP X pins σ Q) X.xe s
def wpA (X : Cx) (es : List Expr) : TA := fun σ H Q => ∀ (pos : Pos) (pins : List (Addr × Obj)) (s : Shared), Inv X pins σ H s → wpAny (model X.prog X.w) X.A (spliced (backTo pos (starEach es X.env))) (AP X pins σ Q) X.xe s
def wpS (X : Cx) (st : Stmt) : TS := fun D σ H => ∀ (pins : List (Addr × Obj)) (s : Shared), Inv X pins σ H s → wpAny (model X.prog X.w) X.A (exec st X.env) (SP X pins D) X.xe s
def wpSs (X : Cx) (st : List Stmt) : TS := fun D σ H => ∀ (pins : List (Addr × Obj)) (s : Shared), Inv X pins σ H s → wpAny (model X.prog X.w) X.A (execs st X.env) (SP X pins D) X.xe s
def wpG (X : Cx) (tg : Expr) : TG := fun v σ H Q => ∀ (pins : List (Addr × Obj)) (s : Shared) (u : Value), Inv X pins σ H s → RelV v u → wpAny (model X.prog X.w) X.A (assign tg X.env u) (fun _ s' => ∃ σ' H', Inv X pins σ' H' s' ∧ Q σ' H') X.xe s
def wpI (X : Cx) (tg iter : Expr) : TI := fun σ H R => ∀ (pins : List (Addr × Obj)) (s : Shared), Inv X pins σ H s → wpAny (model X.prog X.w) X.A (eval iter X.env) (fun v s1 => wpAny (model X.prog X.w) X.A (pyIter v) (PIE X pins σ tg R) X.xe s1) X.xe s
section
variable {X : Cx} {e tg : Expr} {es : List Expr} {st : Stmt} {sts : List Stmt} {σ : L2.St} {H : Hp}
theorem pw_e : PE X e (wpE X e) := ⟨fun p s _ _ _ I h => h p s I⟩
theorem pw_t : PT X e (wpT X e) := ⟨fun p s _ _ _ I h => h p s I⟩
theorem pw_w : PW X e (wpW X e) := ⟨fun w p s _ _ _ I h => h w p s I⟩
theorem pw_a : PA X es (wpA X es) := ⟨fun pos p s _ _ _ I h => h pos p s I⟩
theorem pw_s : PS X st (wpS X st) := ⟨fun p s _ _ _ I h => h p s I⟩
theorem pw_ss : PSs X sts (wpSs X sts) := ⟨fun p s _ _ _ I h => h p s I⟩
theorem pw_g : PG X tg (wpG X tg) := ⟨fun p s _ _ _ u _ I r h => h p s u I r⟩
theorem pw_i : PI X tg e (wpI X tg e) := ⟨fun p s _ _ _ I h => h p s I⟩
theorem to_e {t : TE} {Q : VK} (h : PE X e t) (q : t σ H Q) : wpE X e σ H Q := fun p s I => h.run p s σ H Q I q
theorem to_t {t : TT} {Q : Bool → Hp → Prop} (h : PT X e t) (q : t σ H Q) : wpT X e σ H Q := fun p s I => h.run p s σ H Q I q
theorem to_w {t : TT} {Q : Bool → Hp → Prop} (h : PW X e t) (q : t σ H Q) : wpW X e σ H Q := fun w p s I => h.run w p s σ H Q I q
theorem to_a {t : TA} {Q : List V → Hp → Prop} (h : PA X es t) (q : t σ H Q) : wpA X es σ H Q := fun pos p s I => h.run pos p s σ H Q I q
theorem to_s {t : TS} {D : Ends} (h : PS X st t) (q : t D σ H) : wpS X st D σ H := fun p s I => h.run p s σ H D I q
theorem to_ss {t : TS} {D : Ends} (h : PSs X sts t) (q : t D σ H) : wpSs X sts D σ H := fun p s I => h.run p s σ H D I q
theorem to_g {t : TG} {v : V} {Q : L2.St → Hp → Prop} (h : PG X tg t) (q : t v σ H Q) : wpG X tg v σ H Q := fun p s u I r => h.run p s σ H v u Q I r q
theorem to_i {t : TI} {R : It → Hp → Prop} (h : PI X tg e t) (q : t σ H R) : wpI X tg e σ H R := fun p s I => h.run p s σ H R I q
end

/-! ### judgements -/
def KE (K : Fg) (O F : Hp) (R : SV → Sto → Prop) (Q : VK) : Prop := ∀ x S' v H' F', Same F F' → Mem K O H' F' S' → RepV K F' v x → R x S' → Q v H'
def KT (K : Fg) (O F : Hp) (R : Bool → Sto → Prop) (Q : Bool → Hp → Prop) : Prop := ∀ b S' H' F', Same F F' → Mem K O H' F' S' → R b S' → Q b H'
def KA (K : Fg) (O F : Hp) (R : List SV → Sto → Prop) (Q : List V → Hp → Prop) : Prop := ∀ xs S' vs H' F', Same F F' → Mem K O H' F' S' → RepL K F' vs xs → R xs S' → Q vs H'
def KN (K : Fg) (O F : Hp) (R : Dl → Sto → Prop) (Q : L2.St → Hp → Prop) : Prop := ∀ δ' S' σ' H' F', Same F F' → Mem K O H' F' S' → Slots K F' σ' δ' → R δ' S' → Q σ' H'
theorem KE.mono {K : Fg} {O F F1 : Hp} {R R' : SV → Sto → Prop} {Q : VK} (k : KE K O F R Q) (e : Same F F1) (h : ∀ x S, R' x S → R x S) : KE K O F1 R' Q := fun x S' v H' F' e' M r q => k x S' v H' F' (e.trans e') M r (h _ _ q)
theorem KE.at {K : Fg} {O F F1 : Hp} {R : SV → Sto → Prop} {Q : VK} (k : KE K O F R Q) (e : Same F F1) : KE K O F1 R Q := k.mono e fun _ _ h => h
theorem KT.at {K : Fg} {O F F1 : Hp} {R : Bool → Sto → Prop} {Q : Bool → Hp → Prop} (k : KT K O F R Q) (e : Same F F1) : KT K O F1 R Q := fun b S' H' F' e' M q => k b S' H' F' (e.trans e') M q
theorem KA.at {K : Fg} {O F F1 : Hp} {R : List SV → Sto → Prop} {Q : List V → Hp → Prop} (k : KA K O F R Q) (e : Same F F1) : KA K O F1 R Q := fun xs S' vs H' F' e' M r q => k xs S' vs H' F' (e.trans e') M r q
theorem KN.at {K : Fg} {O F F1 : Hp} {R : Dl → Sto → Prop} {Q : L2.St → Hp → Prop} (k : KN K O F R Q) (e : Same F F1) : KN K O F1 R Q := fun δ' S' σ' H' F' e' M s q => k δ' S' σ' H' F' (e.trans e') M s q

theorem KE.rep {K : Fg} {O F H : Hp} {R : SV → Sto → Prop} {Q : VK} {S : Sto} {v : V} {x : SV} (k : KE K O F R Q) (M : Mem K O H F S) (h : RepV K F v x) (r : R x S) : Q v H := k x S v H F (Same.refl F) M h r
theorem KE.dat {K : Fg} {O F H : Hp} {R : SV → Sto → Prop} {Q : VK} {S : Sto} {v : V} {d : PyData} (k : KE K O F R Q) (M : Mem K O H F S) (h : Dp K F v d) (r : R (.d d) S) : Q v H := k.rep (x := .d d) M h r
/-- a new plain object -/
theorem KE.new {K : Fg} {O F H : Hp} {R : SV → Sto → Prop} {Q : VK} {S : Sto} {p : Addr} {o : HO} {d : PyData} (k : KE K O F R Q) (M : Mem K O H F S) (hp : H p = none) (h : ∀ F1, Same F F1 → F1 p = some o → Dp K F1 (.ref p) d) (r : R (.d d) S) : Q (.ref p) (upd H p o) :=
  k (.d d) S (.ref p) _ _ (same_upd (M.nF hp)) (M.data o hp) (h _ (same_upd (M.nF hp)) upd_same) r
structure DE where
  nx : Dl → Sto → Prop
  rt : SV → Sto → Prop
  bk : Dl → Sto → Prop := fun _ _ => False
  ct : Dl → Sto → Prop := fun _ _ => False
structure KS (K : Fg) (O F : Hp) (E : DE) (D : Ends) : Prop where
  nx : KN K O F E.nx D.nx
  rt : KE K O F E.rt D.rt
  bk : KN K O F E.bk D.bk
  ct : KN K O F E.ct D.ct
theorem KS.at {K : Fg} {O F F1 : Hp} {E : DE} {D : Ends} (k : KS K O F E D) (e : Same F F1) : KS K O F1 E D := ⟨k.nx.at e, k.rt.at e, k.bk.at e, k.ct.at e⟩

structure EW (X : Cx) (e : Expr) (δ : Dl) (S : Sto) (R : SV → Sto → Prop) : Prop where
  run : ∀ O σ H F Q, Mem X.K O H F S → Slots X.K F σ δ → KE X.K O F R Q → wpE X e σ H Q
structure TW (X : Cx) (e : Expr) (δ : Dl) (S : Sto) (R : Bool → Sto → Prop) : Prop where
  run : ∀ O σ H F Q, Mem X.K O H F S → Slots X.K F σ δ → KT X.K O F R Q → wpT X e σ H Q
structure WW (X : Cx) (e : Expr) (δ : Dl) (S : Sto) (R : Bool → Sto → Prop) : Prop where
  run : ∀ O σ H F Q, Mem X.K O H F S → Slots X.K F σ δ → KT X.K O F R Q → wpW X e σ H Q
structure AW (X : Cx) (es : List Expr) (δ : Dl) (S : Sto) (R : List SV → Sto → Prop) : Prop where
  run : ∀ O σ H F Q, Mem X.K O H F S → Slots X.K F σ δ → KA X.K O F R Q → wpA X es σ H Q
structure SW (X : Cx) (st : Stmt) (δ : Dl) (S : Sto) (E : DE) : Prop where
  run : ∀ O σ H F D, Mem X.K O H F S → Slots X.K F σ δ → KS X.K O F E D → wpS X st D σ H
structure SWs (X : Cx) (st : List Stmt) (δ : Dl) (S : Sto) (E : DE) : Prop where
  run : ∀ O σ H F D, Mem X.K O H F S → Slots X.K F σ δ → KS X.K O F E D → wpSs X st D σ H
structure GW (X : Cx) (tg : Expr) (x : SV) (δ : Dl) (S : Sto) (N : Dl → Sto → Prop) : Prop where
  run : ∀ O σ H F v Q, Mem X.K O H F S → Slots X.K F σ δ → RepV X.K F v x → KN X.K O F N Q → wpG X tg v σ H Q
instance {X e δ S R} : CoeFun (EW X e δ S R) (fun _ => ∀ O σ H F Q, Mem X.K O H F S → Slots X.K F σ δ → KE X.K O F R Q → wpE X e σ H Q) := ⟨EW.run⟩
instance {X e δ S R} : CoeFun (TW X e δ S R) (fun _ => ∀ O σ H F Q, Mem X.K O H F S → Slots X.K F σ δ → KT X.K O F R Q → wpT X e σ H Q) := ⟨TW.run⟩
instance {X e δ S R} : CoeFun (WW X e δ S R) (fun _ => ∀ O σ H F Q, Mem X.K O H F S → Slots X.K F σ δ → KT X.K O F R Q → wpW X e σ H Q) := ⟨WW.run⟩
instance {X es δ S R} : CoeFun (AW X es δ S R) (fun _ => ∀ O σ H F Q, Mem X.K O H F S → Slots X.K F σ δ → KA X.K O F R Q → wpA X es σ H Q) := ⟨AW.run⟩
instance {X st δ S E} : CoeFun (SW X st δ S E) (fun _ => ∀ O σ H F D, Mem X.K O H F S → Slots X.K F σ δ → KS X.K O F E D → wpS X st D σ H) := ⟨SW.run⟩
instance {X st δ S E} : CoeFun (SWs X st δ S E) (fun _ => ∀ O σ H F D, Mem X.K O H F S → Slots X.K F σ δ → KS X.K O F E D → wpSs X st D σ H) := ⟨SWs.run⟩
instance {X tg x δ S N} : CoeFun (GW X tg x δ S N) (fun _ => ∀ O σ H F v Q, Mem X.K O H F S → Slots X.K F σ δ → RepV X.K F v x → KN X.K O F N Q → wpG X tg v σ H Q) := ⟨GW.run⟩
/-- a value is found, nothing is changed -/
abbrev EV (X : Cx) (e : Expr) (δ : Dl) (S : Sto) (x : SV) : Prop := EW X e δ S fun y S' => y = x ∧ S' = S
abbrev TV (X : Cx) (e : Expr) (δ : Dl) (S : Sto) (b : Bool) : Prop := TW X e δ S fun c S' => c = b ∧ S' = S
abbrev WV (X : Cx) (e : Expr) (δ : Dl) (S : Sto) (b : Bool) : Prop := WW X e δ S fun c S' => c = b ∧ S' = S
abbrev AV (X : Cx) (es : List Expr) (δ : Dl) (S : Sto) (xs : List SV) : Prop := AW X es δ S fun ys S' => ys = xs ∧ S' = S
section
variable {X : Cx} {e a b c : Expr} {es : List Expr} {st : Stmt} {sts : List Stmt} {δ : Dl} {S : Sto} {pos : Pos}
theorem EW.mono {R R' : SV → Sto → Prop} (h : EW X e δ S R) (k : ∀ x S', R x S' → R' x S') : EW X e δ S R' := .mk fun O σ H F Q M s q => h O σ H F Q M s (q.mono (Same.refl _) k)
theorem TW.mono {R R' : Bool → Sto → Prop} (h : TW X e δ S R) (k : ∀ x S', R x S' → R' x S') : TW X e δ S R' := .mk fun O σ H F Q M s q => h O σ H F Q M s fun b S' H' F' e M' r => q b S' H' F' e M' (k _ _ r)
theorem WW.mono {R R' : Bool → Sto → Prop} (h : WW X e δ S R) (k : ∀ x S', R x S' → R' x S') : WW X e δ S R' := .mk fun O σ H F Q M s q => h O σ H F Q M s fun b S' H' F' e M' r => q b S' H' F' e M' (k _ _ r)
theorem AW.mono {R R' : List SV → Sto → Prop} (h : AW X es δ S R) (k : ∀ x S', R x S' → R' x S') : AW X es δ S R' := .mk fun O σ H F Q M s q => h O σ H F Q M s fun b S' v H' F' e M' r z => q b S' v H' F' e M' r (k _ _ z)
theorem EV.use {R : SV → Sto → Prop} {x : SV} (h : EV X e δ S x) (k : R x S) : EW X e δ S R := EW.mono h fun _ _ ⟨e1, e2⟩ => by rw [e1, e2]; exact k
theorem TV.use {R : Bool → Sto → Prop} {x : Bool} (h : TV X e δ S x) (k : R x S) : TW X e δ S R := TW.mono h fun _ _ ⟨e1, e2⟩ => by rw [e1, e2]; exact k
theorem AV.use {R : List SV → Sto → Prop} {x : List SV} (h : AV X es δ S x) (k : R x S) : AW X es δ S R := AW.mono h fun _ _ ⟨e1, e2⟩ => by rw [e1, e2]; exact k
theorem EV.is {x y : SV} (h : EV X e δ S x) (k : x = y) : EV X e δ S y := k ▸ h
theorem TV.is {x y : Bool} (h : TV X e δ S x) (k : x = y) : TV X e δ S y := k ▸ h
theorem AV.is {x y : List SV} (h : AV X es δ S x) (k : x = y) : AV X es δ S y := k ▸ h

/-! ### two values, one value, an argument list, made one -/
def BW (X : Cx) (r : R2) (x y : SV) (S : Sto) (R : SV → Sto → Prop) : Prop := ∀ O H F v w Q, Mem X.K O H F S → RepV X.K F v x → RepV X.K F w y → KE X.K O F R Q → r v w H Q
def UW (X : Cx) (r : V → Hp → VK → Prop) (x : SV) (S : Sto) (R : SV → Sto → Prop) : Prop := ∀ O H F v Q, Mem X.K O H F S → RepV X.K F v x → KE X.K O F R Q → r v H Q
def LW (X : Cx) (r : List V → Hp → VK → Prop) (xs : List SV) (S : Sto) (R : SV → Sto → Prop) : Prop := ∀ O H F vs Q, Mem X.K O H F S → RepL X.K F vs xs → KE X.K O F R Q → r vs H Q
theorem ew_tOp {r : R2} {R : SV → Sto → Prop} (h : PE X e (tOp r (wpE X a) (wpE X b))) (ha : EW X a δ S fun x S1 => EW X b δ S1 fun y S2 => BW X r x y S2 R) : EW X e δ S R := .mk fun O σ H F Q M s k =>
  to_e h (ha O σ H F _ M s fun x S1 v H1 F1 e1 M1 r1 hb => hb O σ H1 F1 _ M1 (s.mono e1) fun y S2 w H2 F2 e2 M2 r2 hr => hr O H2 F2 v w Q M2 (repV_mono e2 r1) r2 (k.at (e1.trans e2)))
theorem ev_tOp {r : R2} {x y : SV} {R : SV → Sto → Prop} (h : PE X e (tOp r (wpE X a) (wpE X b))) (ha : EV X a δ S x) (hb : EV X b δ S y) (hr : BW X r x y S R) : EW X e δ S R :=
  ew_tOp h (ha.use (hb.use hr))
theorem ew_tUn {r : V → Hp → VK → Prop} {R : SV → Sto → Prop} (h : PE X e (tUn r (wpE X a))) (ha : EW X a δ S fun x S1 => UW X r x S1 R) : EW X e δ S R := .mk fun O σ H F Q M s k =>
  to_e h (ha O σ H F _ M s fun x S1 v H1 F1 e1 M1 r1 hr => hr O H1 F1 v Q M1 r1 (k.at e1))
theorem ew_tCB {r : List V → Hp → VK → Prop} {R : SV → Sto → Prop} (h : PE X e (tCB r (wpA X es))) (ha : AW X es δ S fun x S1 => LW X r x S1 R) : EW X e δ S R := .mk fun O σ H F Q M s k =>
  to_e h (ha O σ H F _ M s fun x S1 v H1 F1 e1 M1 r1 hr => hr O H1 F1 v Q M1 r1 (k.at e1))
end
end K23
/-! DL, part 2: where one stands, and the rules of expressions -/
namespace K23
open PySem PySem.Spec PyProof.Rows L2

structure Zx where
  P : Program
  w : World
  K : Fg
  mg : Str → Option Value
  base : Heap
/-- the i-th name is x, and it is to be seen -/
class NAt (N : List Str) (bs : List Bool) (x : Str) (i : outParam Nat) : Prop where
  h : N[i]? = some x ∧ bs[i]? = some true
instance nAt0 {N : List Str} {bs : List Bool} {x : Str} : NAt (x :: N) (true :: bs) x 0 := ⟨rfl, rfl⟩
instance nAtS {N : List Str} {bs : List Bool} {x y : Str} {b : Bool} {i : Nat} [n : NAt N bs x i] : NAt (y :: N) (b :: bs) x (i + 1) := ⟨by simpa using n.h.1, by simpa using n.h.2⟩
class GAt (gs : List Str) (x : Str) : Prop where
  h : x ∈ gs
instance gAt0 {gs : List Str} {x : Str} : GAt (x :: gs) x := ⟨List.mem_cons_self⟩
instance gAtS {gs : List Str} {x y : Str} [g : GAt gs x] : GAt (y :: gs) x := ⟨List.mem_cons_of_mem _ g.h⟩
/-- a body that runs: its context X; N its names by slot, bs those to be seen, ls those to be stored, gs the module's and built-in names, k the room -/
class Bd (Z : outParam Zx) (X : Cx) (N : outParam (List Str)) (sc : outParam Scope) (bs ls : outParam (List Bool)) (gs : outParam (List Str)) (k : outParam Nat) : Prop where
  prog : X.prog = Z.P
  w : X.w = Z.w
  K : X.K = Z.K
  mg : X.mg = Z.mg
  base : X.base = Z.base
  Nn : X.N = N
  nd : N.Nodup
  sc : X.env.scope = sc
  calm : X.calm = true
  room : Room k X.A
  xe : X.xe = fun _ _ => False
  vis : ∀ (i : Nat) (x : Str), N[i]? = some x → bs[i]? = some true → Vis X.env.scope x ∧ (x == ("__debug__" : Str)) = false ∧ (x == ("__classdict__" : Str)) = false
  sto : ∀ (i : Nat) (x : Str), N[i]? = some x → ls[i]? = some true → Loc X.env.scope x ∧ (X.fn x = true ∨ X.env.scope.names.lookup x = some .local)
  gl : ∀ x ∈ gs, Gl X x ∧ (x == ("__debug__" : Str)) = false ∧ x ≠ "__name__"
/-- what the module's name x stands for: a free built-in name -/
class Free (Z : Zx) (x : Str) : Prop where
  h : Z.mg x = none
/-- the module's name x holds plain data -/
class Cst (Z : Zx) (x : Str) (d : outParam PyData) : Prop where
  h : ∃ v u, Z.mg x = some u ∧ RelV v u ∧ ∀ F, Dp Z.K F v d
abbrev Ct := List SV → Sto → (SV → Sto → Prop) → Prop
def spC (K : Fg) (c : Ct) : Sp := fun vs H Q _ => ∃ O F S xs R, Mem K O H F S ∧ RepL K F vs xs ∧ c xs S R ∧ KE K O F R Q
/-- the module's name x holds a def that keeps the contract c -/
class HasFn (Z : Zx) (x : Str) (ps : outParam (List Str)) (k : outParam Nat) (c : outParam Ct) : Prop where
  h : ∃ f fd, Z.mg x = some (.ref f) ∧ PySem.W.keepIn Z.K (.ref f) = true ∧ Binds Z.K fd ps [] ∧ FnOk Z.P Z.w Z.K Z.mg Z.base CX0 k f fd ps (spC Z.K c)

section
variable {Z : Zx} {X : Cx} {N : List Str} {sc : Scope} {bs ls : List Bool} {gs : List Str} {k : Nat} [B : Bd Z X N sc bs ls gs k]
variable {e a b c : Expr} {es : List Expr} {δ : Dl} {S : Sto} {pos p apos : Pos}
include B
theorem Bd.hu : X.A.units + 1 < cLine := hu_of B.room
theorem Bd.hu64 : X.A.units + 64 < cLine := B.room.units
theorem Bd.nv : PassesOwn (model X.prog X.w) X.A X.env X.xe := by rw [B.xe]; exact PassesOwn.never
theorem Bd.glo {x : Str} (g : GAt gs x) : Gl X x := (B.gl x g.h).1

/-! ### leaves -/
theorem ev_var {x : Str} {i : Nat} {v : SV} [n : NAt N bs x i] (hd : δ[i]? = some (some v)) : EV X (.Name x pos) δ S v := .mk fun O σ H F Q M s q => by
  obtain ⟨h1, h2⟩ := n.h
  obtain ⟨v1, v2, v3⟩ := B.vis i x h1 h2
  obtain ⟨u, hu, ru⟩ := s.2 i v hd
  exact to_e (pe_var (i := i) (by rw [B.Nn]; exact h1) v1 v2 v3) ⟨u, hu, q.rep M ru ⟨rfl, rfl⟩⟩
theorem ev_cst {x : Str} {d : PyData} [g : GAt gs x] [z : Cst Z x d] : EV X (.Name x pos) δ S (.d d) := .mk fun O σ H F Q M s q => by
  obtain ⟨v, u, h1, h2, h3⟩ := z.h
  obtain ⟨g1, g2, g3⟩ := B.gl x g.h
  refine to_e (pe_glob g1 (by rw [B.mg]; exact h1) h2 g2) (q.dat M ?_ ⟨rfl, rfl⟩)
  show Dp X.K F v d
  rw [B.K]; exact h3 F
omit B in
theorem ev_int {i : Int} {j : Nat} : EV X (.Constant (.int i) j pos) δ S (.d (.int i)) := .mk fun O σ H F Q M s q => to_e pe_int (q.dat M (Dp.int i) ⟨rfl, rfl⟩)
omit B in
theorem ev_str {i : Str} {j : Nat} : EV X (.Constant (.str i) j pos) δ S (.d (.str i)) := .mk fun O σ H F Q M s q => to_e pe_str (q.dat M (Dp.str i) ⟨rfl, rfl⟩)
omit B in
theorem ev_bl {i : Bool} {j : Nat} : EV X (.Constant (.bool i) j pos) δ S (.d (.bool i)) := .mk fun O σ H F Q M s q => to_e pe_bl (q.dat M (Dp.bl i) ⟨rfl, rfl⟩)
omit B in
theorem ev_non {j : Nat} : EV X (.Constant .none j pos) δ S (.d .none) := .mk fun O σ H F Q M s q => to_e pe_non (q.dat M Dp.non ⟨rfl, rfl⟩)
end

section
variable {X : Cx} {S : Sto} {R : SV → Sto → Prop} {i j : Int}
theorem bw_I0 {g : Int → Int → V} {d : PyData} (hd : ∀ F, Dp X.K F (g i j) d) (h : R (.d d) S) : BW X (rI0 g) (.d (.int i)) (.d (.int j)) S R := fun O H F v w Q M rv rw' k => by
  cases rv; cases rw'
  exact ⟨i, j, rfl, rfl, k.dat M (hd F) h⟩
theorem bw_I {C : Int → Int → Prop} {g : Int → Int → V} {d : PyData} (hc : C i j) (hd : ∀ F, Dp X.K F (g i j) d) (h : R (.d d) S) : BW X (rI C g) (.d (.int i)) (.d (.int j)) S R := fun O H F v w Q M rv rw' k => by
  cases rv; cases rw'
  exact ⟨i, j, rfl, rfl, hc, k.dat M (hd F) h⟩
end

section
variable {X : Cx} {a b e : Expr} {es : List Expr} {δ : Dl} {S : Sto} {pos : Pos} {i j : Int}
/-! ### ints -/
theorem ev_add (ha : EV X a δ S (.d (.int i))) (hb : EV X b δ S (.d (.int j))) : EV X (.BinOp a .Add b pos) δ S (.d (.int (i + j))) := ev_tOp (pe_op op_add pw_e pw_e) ha hb (bw_I0 (fun _ => .int _) ⟨rfl, rfl⟩)
theorem ev_sub (ha : EV X a δ S (.d (.int i))) (hb : EV X b δ S (.d (.int j))) : EV X (.BinOp a .Sub b pos) δ S (.d (.int (i - j))) := ev_tOp (pe_op op_sub pw_e pw_e) ha hb (bw_I0 (fun _ => .int _) ⟨rfl, rfl⟩)
theorem ev_mul (ha : EV X a δ S (.d (.int i))) (hb : EV X b δ S (.d (.int j))) (hc : CMul i j) : EV X (.BinOp a .Mult b pos) δ S (.d (.int (i * j))) := ev_tOp (pe_op op_mul pw_e pw_e) ha hb (bw_I hc (fun _ => .int _) ⟨rfl, rfl⟩)
theorem ev_fdiv (ha : EV X a δ S (.d (.int i))) (hb : EV X b δ S (.d (.int j))) (hc : CDivN i j) : EV X (.BinOp a .FloorDiv b pos) δ S (.d (.int (i.fdiv j))) := ev_tOp (pe_op op_fdivN pw_e pw_e) ha hb (bw_I hc (fun _ => .int _) ⟨rfl, rfl⟩)
theorem ev_mod (ha : EV X a δ S (.d (.int i))) (hb : EV X b δ S (.d (.int j))) (hc : 0 < j) : EV X (.BinOp a .Mod b pos) δ S (.d (.int (i % j))) := ev_tOp (pe_op op_mod pw_e pw_e) ha hb (bw_I hc (fun _ => .int _) ⟨rfl, rfl⟩)
theorem ev_shl (ha : EV X a δ S (.d (.int i))) (hb : EV X b δ S (.d (.int j))) (hc : CPow i j) : EV X (.BinOp a .LShift b pos) δ S (.d (.int (i * 2 ^ j.toNat))) := ev_tOp (pe_op op_shl pw_e pw_e) ha hb (bw_I hc (fun _ => .int _) ⟨rfl, rfl⟩)
theorem ev_shr (ha : EV X a δ S (.d (.int i))) (hb : EV X b δ S (.d (.int j))) (hc : 0 ≤ j) : EV X (.BinOp a .RShift b pos) δ S (.d (.int (i / 2 ^ j.toNat))) := ev_tOp (pe_op op_shr pw_e pw_e) ha hb (bw_I hc (fun _ => .int _) ⟨rfl, rfl⟩)
theorem ev_and (ha : EV X a δ S (.d (.int i))) (hb : EV X b δ S (.d (.int j))) : EV X (.BinOp a .BitAnd b pos) δ S (.d (.int (Builtin.bitAnd i j))) := ev_tOp (pe_op op_and pw_e pw_e) ha hb (bw_I0 (fun _ => .int _) ⟨rfl, rfl⟩)
theorem ev_or (ha : EV X a δ S (.d (.int i))) (hb : EV X b δ S (.d (.int j))) : EV X (.BinOp a .BitOr b pos) δ S (.d (.int (Builtin.bitOr i j))) := ev_tOp (pe_op op_or pw_e pw_e) ha hb (bw_I0 (fun _ => .int _) ⟨rfl, rfl⟩)
theorem ev_xor (ha : EV X a δ S (.d (.int i))) (hb : EV X b δ S (.d (.int j))) : EV X (.BinOp a .BitXor b pos) δ S (.d (.int (Builtin.bitXor i j))) := ev_tOp (pe_op op_xor pw_e pw_e) ha hb (bw_I0 (fun _ => .int _) ⟨rfl, rfl⟩)
theorem ev_neg (ha : EV X a δ S (.d (.int i))) : EV X (.UnaryOp .USub a pos) δ S (.d (.int (-i))) := ew_tUn (pe_un un_neg pw_e) (ha.use fun O H F v Q M r k => by cases r; exact ⟨i, rfl, k.dat M (.int _) ⟨rfl, rfl⟩⟩)
/-! ### comparisons -/
def wpC (X : Cx) (op : CmpOp) (a b : Expr) : TE := fun σ H Q => ∀ (pins : List (Addr × Obj)) (s : Shared), Inv X pins σ H s →
  wpAny (model X.prog X.w) X.A (eval a X.env) (fun v s₁ => wpAny (model X.prog X.w) X.A (eval b X.env) (fun u s₂ => wpAny (model X.prog X.w) X.A (compareOp op v u) (EP X pins σ Q) X.xe s₂) X.xe s₁) X.xe s
theorem pw_c {op : CmpOp} : PC X op a b (wpC X op a b) := ⟨fun p s _ _ _ I h => h p s I⟩
theorem to_c {op : CmpOp} {t : TE} {σ : L2.St} {H : Hp} {Q : VK} (h : PC X op a b t) (q : t σ H Q) : wpC X op a b σ H Q := fun p s I => h.run p s σ H Q I q
theorem pc_of {op : CmpOp} {r : R2} (ho : OpR X (compareOp op) r) : PC X op a b (tOp r (wpE X a) (wpE X b)) := ⟨fun pins s σ H Q I h => bin pw_e pw_e I h fun v u s2 x y H2 I2 rx ry q => ho pins s2 σ H2 x y v u Q I2 rx ry q⟩
structure CW (X : Cx) (op : CmpOp) (a b : Expr) (δ : Dl) (S : Sto) (R : SV → Sto → Prop) : Prop where
  run : ∀ O σ H F Q, Mem X.K O H F S → Slots X.K F σ δ → KE X.K O F R Q → wpC X op a b σ H Q
abbrev CV (X : Cx) (op : CmpOp) (a b : Expr) (δ : Dl) (S : Sto) (x : SV) : Prop := CW X op a b δ S fun y S' => y = x ∧ S' = S
theorem cw_tOp {op : CmpOp} {r : R2} {R : SV → Sto → Prop} (ho : OpR X (compareOp op) r) (ha : EW X a δ S fun x S1 => EW X b δ S1 fun y S2 => BW X r x y S2 R) : CW X op a b δ S R := ⟨fun O σ H F Q M s k =>
  to_c (pc_of ho) (ha O σ H F _ M s fun x S1 v H1 F1 e1 M1 r1 hb => hb O σ H1 F1 _ M1 (s.mono e1) fun y S2 w H2 F2 e2 M2 r2 hr => hr O H2 F2 v w Q M2 (repV_mono e2 r1) r2 (k.at (e1.trans e2)))⟩
theorem cv_tOp {op : CmpOp} {r : R2} {x y : SV} {R : SV → Sto → Prop} (ho : OpR X (compareOp op) r) (ha : EV X a δ S x) (hb : EV X b δ S y) (hr : BW X r x y S R) : CW X op a b δ S R := cw_tOp ho (ha.use (hb.use hr))
/-- as a value, as a test -/
theorem ew_cmp {op : CmpOp} {R : SV → Sto → Prop} (h : CW X op a b δ S R) (hm : behindInMarks op b = false := by first | exact nobehind _ (by decide) (by decide) | rfl) : EW X (.Compare a [op] [b] pos) δ S R := ⟨fun O σ H F Q M s k => to_e (pe_cmp pw_c hm) (h.run O σ H F Q M s k)⟩
theorem ev_cmp {op : CmpOp} {x : SV} (h : CV X op a b δ S x) (hm : behindInMarks op b = false := by first | exact nobehind _ (by decide) (by decide) | rfl) : EV X (.Compare a [op] [b] pos) δ S x := ew_cmp h hm
theorem tw_cmp {op : CmpOp} {R : Bool → Sto → Prop} (h : CW X op a b δ S fun v S' => ∃ c, v = .d (.bool c) ∧ R c S') (hm : behindInMarks op b = false := by first | exact nobehind _ (by decide) (by decide) | rfl) : TW X (.Compare a [op] [b] pos) δ S R := ⟨fun O σ H F Q M s k =>
  to_t (pt_cmp pw_c hm) (h.run O σ H F _ M s fun v S' u H' F' e1 M1 r q => by
    obtain ⟨c, rfl, q⟩ := q
    cases r
    exact ⟨c, rfl, k c S' H' F' e1 M1 q⟩)⟩
theorem tv_cmp {op : CmpOp} {x : Bool} (h : CV X op a b δ S (.d (.bool x))) (hm : behindInMarks op b = false := by first | exact nobehind _ (by decide) (by decide) | rfl) : TV X (.Compare a [op] [b] pos) δ S x := tw_cmp ⟨fun O σ H F Q M s k => h.run O σ H F Q M s (k.mono (Same.refl _) fun _ _ ⟨e1, e2⟩ => ⟨x, e1, rfl, e2⟩)⟩ hm
theorem cv_lt (ha : EV X a δ S (.d (.int i))) (hb : EV X b δ S (.d (.int j))) : CV X .Lt a b δ S (.d (.bool (decide (i < j)))) := cv_tOp op_lt ha hb (bw_I0 (fun _ => .bl _) ⟨rfl, rfl⟩)
theorem cv_le (ha : EV X a δ S (.d (.int i))) (hb : EV X b δ S (.d (.int j))) : CV X .LtE a b δ S (.d (.bool (decide (i ≤ j)))) := cv_tOp op_le ha hb (bw_I0 (fun _ => .bl _) ⟨rfl, rfl⟩)
theorem cv_gt (ha : EV X a δ S (.d (.int i))) (hb : EV X b δ S (.d (.int j))) : CV X .Gt a b δ S (.d (.bool (decide (j < i)))) := cv_tOp op_gt ha hb (bw_I0 (fun _ => .bl _) ⟨rfl, rfl⟩)
theorem cv_ge (ha : EV X a δ S (.d (.int i))) (hb : EV X b δ S (.d (.int j))) : CV X .GtE a b δ S (.d (.bool (decide (j ≤ i)))) := cv_tOp op_ge ha hb (bw_I0 (fun _ => .bl _) ⟨rfl, rfl⟩)
theorem cv_isN {x : PyData} (ha : EV X a δ S (.d x)) {q : Pos} {n : Nat} : CV X .Is a (.Constant .none n q) δ S (.d (.bool (match x with | .none => true | _ => false))) :=
  cv_tOp op_isN ha ev_non fun O H F v w Q M rv rw' k => by
    cases rw'
    refine ⟨rfl, ?_⟩
    cases rv <;> exact k.dat M (Dp.bl _) ⟨rfl, rfl⟩
theorem cv_notN {x : PyData} (ha : EV X a δ S (.d x)) {q : Pos} {n : Nat} : CV X .IsNot a (.Constant .none n q) δ S (.d (.bool (match x with | .none => false | _ => true))) :=
  cv_tOp op_notN ha ev_non fun O H F v w Q M rv rw' k => by
    cases rw'
    refine ⟨rfl, ?_⟩
    cases rv <;> exact k.dat M (Dp.bl _) ⟨rfl, rfl⟩
theorem cv_notB {x y : Bool} (ha : EV X a δ S (.d (.bool x))) {q : Pos} {n : Nat} : CV X .IsNot a (.Constant (.bool y) n q) δ S (.d (.bool (!decide (x = y)))) :=
  cv_tOp op_notBl ha ev_bl fun O H F v w Q M rv rw' k => by
    cases rv; cases rw'
    exact ⟨x, y, rfl, rfl, k.dat M (Dp.bl _) ⟨rfl, rfl⟩⟩
/-- a < b < c of ints -/
theorem ev_chainI {op op' : CmpOp} {f g : Int → Int → Bool} {c : Expr} {l : Int} (ho : OpR X (compareOp op) (rI0 fun i j => .bl (f i j))) (ho' : OpR X (compareOp op') (rI0 fun i j => .bl (g i j)))
    (ha : EV X a δ S (.d (.int i))) (hb : EV X b δ S (.d (.int j))) (hc : EV X c δ S (.d (.int l))) (hm : lastMarks [op, op'] [b, c] = false := by with_unfolding_all rfl) :
    EV X (.Compare a [op, op'] [b, c] pos) δ S (.d (.bool (f i j && g j l))) := .mk fun O σ H F Q M s k =>
  to_e (pe_chain ho ho' pw_e pw_e pw_e hm) (ha O σ H F _ M s fun x S1 v H1 F1 e1 M1 r1 q1 => by
    obtain ⟨rfl, rfl⟩ := q1
    refine hb O σ H1 F1 _ M1 (s.mono e1) fun y S2 w H2 F2 e2 M2 r2 q2 => ?_
    obtain ⟨rfl, rfl⟩ := q2
    cases r1; cases r2
    refine ⟨i, j, rfl, rfl, f i j, rfl, ?_⟩
    cases hf : f i j with
    | false =>
      rw [hf] at k
      exact (k.at (e1.trans e2)).dat M2 (Dp.bl _) ⟨rfl, rfl⟩
    | true =>
      rw [hf] at k
      refine hc O σ H2 F2 _ M2 (s.mono (e1.trans e2)) fun z S3 u H3 F3 e3 M3 r3 q3 => ?_
      obtain ⟨rfl, rfl⟩ := q3
      cases r3
      exact ⟨j, l, rfl, rfl, (k.at ((e1.trans e2).trans e3)).dat M3 (Dp.bl _) ⟨rfl, rfl⟩⟩)
theorem tv_chainI {op op' : CmpOp} {f g : Int → Int → Bool} {c : Expr} {l : Int} (ho : OpR X (compareOp op) (rI0 fun i j => .bl (f i j))) (ho' : OpR X (compareOp op') (rI0 fun i j => .bl (g i j)))
    (ha : EV X a δ S (.d (.int i))) (hb : EV X b δ S (.d (.int j))) (hc : EV X c δ S (.d (.int l))) (hm : lastMarks [op, op'] [b, c] = false := by with_unfolding_all rfl) :
    TV X (.Compare a [op, op'] [b, c] pos) δ S (f i j && g j l) := .mk fun O σ H F Q M s k =>
  to_t (pt_chain ho ho' pw_e pw_e pw_e hm) (ha O σ H F _ M s fun x S1 v H1 F1 e1 M1 r1 q1 => by
    obtain ⟨rfl, rfl⟩ := q1
    refine hb O σ H1 F1 _ M1 (s.mono e1) fun y S2 w H2 F2 e2 M2 r2 q2 => ?_
    obtain ⟨rfl, rfl⟩ := q2
    cases r1; cases r2
    refine ⟨i, j, rfl, rfl, f i j, rfl, ?_⟩
    cases hf : f i j with
    | false =>
      rw [hf] at k
      exact ⟨false, rfl, k _ _ _ _ (e1.trans e2) M2 ⟨rfl, rfl⟩⟩
    | true =>
      rw [hf] at k
      refine hc O σ H2 F2 _ M2 (s.mono (e1.trans e2)) fun z S3 u H3 F3 e3 M3 r3 q3 => ?_
      obtain ⟨rfl, rfl⟩ := q3
      cases r3
      exact ⟨j, l, rfl, rfl, _, rfl, k _ _ _ _ ((e1.trans e2).trans e3) M3 ⟨rfl, rfl⟩⟩)
/-- == of plain data -/
def shp (d : PyData) : Prop := SeqAt.shaped d = true
theorem cv_eq {Z : Zx} {N sc bs ls gs k} [B : Bd Z X N sc bs ls gs k] {x y : PyData} (ha : EV X a δ S (.d x)) (hb : EV X b δ S (.d y)) (hx : shp x) (hy : shp y) : CV X .Eq a b δ S (.d (.bool (PyData.eqv x y))) :=
  cv_tOp (op_eqD B.hu64) ha hb fun O H F v w Q M rv rw' k => ⟨x, y, dp_mono M.fr rv, dp_mono M.fr rw', hx, hy, k.dat M (Dp.bl _) ⟨rfl, rfl⟩⟩
theorem cv_ne {Z : Zx} {N sc bs ls gs k} [B : Bd Z X N sc bs ls gs k] {x y : PyData} (ha : EV X a δ S (.d x)) (hb : EV X b δ S (.d y)) (hx : shp x) (hy : shp y) : CV X .NotEq a b δ S (.d (.bool (!PyData.eqv x y))) :=
  cv_tOp (op_neD B.hu64) ha hb fun O H F v w Q M rv rw' k => ⟨x, y, dp_mono M.fr rv, dp_mono M.fr rw', hx, hy, k.dat M (Dp.bl _) ⟨rfl, rfl⟩⟩
/-- of ints, of texts -/
theorem cv_eqI (ha : EV X a δ S (.d (.int i))) (hb : EV X b δ S (.d (.int j))) : CV X .Eq a b δ S (.d (.bool (decide (i = j)))) :=
  cv_tOp op_eq ha hb fun O H F v w Q M rv rw' k => by
    cases rv; cases rw'
    exact ⟨rfl, k.dat M (show Dp X.K F (.bl (decide (V.int i = V.int j))) (.bool (decide (i = j))) by rw [dec_int]; exact Dp.bl _) ⟨rfl, rfl⟩⟩
theorem cv_neI (ha : EV X a δ S (.d (.int i))) (hb : EV X b δ S (.d (.int j))) : CV X .NotEq a b δ S (.d (.bool (!decide (i = j)))) :=
  cv_tOp op_ne ha hb fun O H F v w Q M rv rw' k => by
    cases rv; cases rw'
    exact ⟨rfl, k.dat M (show Dp X.K F (.bl (!decide (V.int i = V.int j))) (.bool (!decide (i = j))) by rw [dec_int]; exact Dp.bl _) ⟨rfl, rfl⟩⟩
theorem cv_eqS {x y : Str} (ha : EV X a δ S (.d (.str x))) (hb : EV X b δ S (.d (.str y))) : CV X .Eq a b δ S (.d (.bool (decide (x = y)))) :=
  cv_tOp op_eq ha hb fun O H F v w Q M rv rw' k => by
    cases rv; cases rw'
    have e : decide (V.str x = V.str y) = decide (x = y) := by
      by_cases h : x = y
      · subst h; simp
      · rw [decide_eq_false h, decide_eq_false fun z => h (V.str.inj z)]
    exact ⟨rfl, k.dat M (show Dp X.K F (.bl (decide (V.str x = V.str y))) (.bool (decide (x = y))) by rw [e]; exact Dp.bl _) ⟨rfl, rfl⟩⟩
theorem cv_eqB {x y : Bool} (ha : EV X a δ S (.d (.bool x))) (hb : EV X b δ S (.d (.bool y))) : CV X .Eq a b δ S (.d (.bool (x == y))) :=
  cv_tOp op_eq ha hb fun O H F v w Q M rv rw' k => by
    cases rv; cases rw'
    exact ⟨rfl, k.dat M (show Dp X.K F (.bl (decide (V.bl x = V.bl y))) (.bool (x == y)) by rw [dec_bl]; exact Dp.bl _) ⟨rfl, rfl⟩⟩
theorem cv_neB {x y : Bool} (ha : EV X a δ S (.d (.bool x))) (hb : EV X b δ S (.d (.bool y))) : CV X .NotEq a b δ S (.d (.bool (!(x == y)))) :=
  cv_tOp op_ne ha hb fun O H F v w Q M rv rw' k => by
    cases rv; cases rw'
    exact ⟨rfl, k.dat M (show Dp X.K F (.bl (!decide (V.bl x = V.bl y))) (.bool (!(x == y))) by rw [dec_bl]; exact Dp.bl _) ⟨rfl, rfl⟩⟩
/-! ### in -/
def flatD : PyData → Bool
  | .none => true
  | .bool _ => true
  | .int _ => true
  | .str _ => true
  | _ => false
theorem flat_v {K : Fg} {F : Hp} {v : V} {d : PyData} (h : Dp K F v d) (f : flatD d = true) : flatV v = true := by cases h <;> first | rfl | cases f
theorem eqV_eqv {K : Fg} {F : Hp} {v w : V} {d e : PyData} (h : Dp K F v d) (g : Dp K F w e) (f : flatD d = true) (f' : flatD e = true) : eqV v w = PyData.eqv d e := by
  cases h <;> cases g <;> first | rfl | cases f | cases f' | skip
  all_goals simp [eqV, PyData.eqv]
theorem flat_all {K : Fg} {F : Hp} : ∀ {ds : List PyData} {vs : List V}, DpAll K F vs ds → ds.all flatD = true → vs.all flatV = true
  | [], _, h, _ => by cases h; rfl
  | d :: ds, _, h, f => by
    cases h with
    | cons h t =>
      rw [List.all_cons, Bool.and_eq_true] at f ⊢
      exact ⟨flat_v h f.1, flat_all t f.2⟩
theorem inV_in {K : Fg} {F : Hp} {v : V} {d : PyData} (h : Dp K F v d) (f : flatD d = true) : ∀ {ds : List PyData} {vs : List V}, DpAll K F vs ds → ds.all flatD = true → inV v vs = ds.any fun e => PyData.eqv e d
  | [], _, t, _ => by cases t; rfl
  | e :: ds, _, t, g => by
    cases t with
    | cons h' t =>
      rw [List.all_cons, Bool.and_eq_true] at g
      have z := inV_in h f t g.2
      show (eqV _ v || inV v _) = (PyData.eqv e d || ds.any fun e => PyData.eqv e d)
      rw [z, eqV_eqv h' h g.1 f]
theorem cv_in {x : PyData} {ds : List PyData} (ha : EV X a δ S (.d x)) (hb : EV X b δ S (.d (.tuple ds))) (f : flatD x = true) (fs : ds.all flatD = true) : CV X .In a b δ S (.d (.bool (ds.any fun e => PyData.eqv e x))) :=
  cv_tOp op_in_seq ha hb fun O H F v w Q M rv rw' k => by
    cases rw' with
    | tup ht hall => exact ⟨_, _, rfl, .inr (sqT_mono M.fr ht), flat_v rv f, flat_all hall fs, k.dat M (show Dp X.K F (.bl (inV v _)) (.bool _) by rw [inV_in rv f hall fs]; exact Dp.bl _) ⟨rfl, rfl⟩⟩
theorem cv_inL {x : PyData} {ds : List PyData} (ha : EV X a δ S (.d x)) (hb : EV X b δ S (.d (.list ds))) (f : flatD x = true) (fs : ds.all flatD = true) : CV X .In a b δ S (.d (.bool (ds.any fun e => PyData.eqv e x))) :=
  cv_tOp op_in_seq ha hb fun O H F v w Q M rv rw' k => by
    cases rw' with
    | lst ht hall => exact ⟨_, _, rfl, .inl (M.fr.seq ht), flat_v rv f, flat_all hall fs, k.dat M (show Dp X.K F (.bl (inV v _)) (.bool _) by rw [inV_in rv f hall fs]; exact Dp.bl _) ⟨rfl, rfl⟩⟩
end
end K23
/-! DL, part 3: tests, calls, displays, subscripts, built-ins -/
namespace K23
open PySem PySem.Spec PyProof.Rows L2

theorem pair_app {α β : Type} {F : α → β → Prop} {xs : List α} {ys : List β} {xs' : List α} {ys' : List β} (h : Paired F xs ys) (h' : Paired F xs' ys') : Paired F (xs ++ xs') (ys ++ ys') := by
  induction h with
  | nil => exact h'
  | cons r _ ih => exact .cons r ih
section
variable {X : Cx} {a b c e : Expr} {es rest : List Expr} {δ : Dl} {S : Sto} {pos p : Pos} {x y : Bool}
/-! ### tests -/
theorem tw_val {R : Bool → Sto → Prop} (h : EW X e δ S fun v S' => ∃ c, v = .d (.bool c) ∧ R c S') (he : ∀ whole, isTrue e X.env whole = (do let v ← whole; standAt e.pos; holding [v] (truthy v)) := by intro _; rfl) : TW X e δ S R := .mk fun O σ H F Q M s k =>
  to_t (pt_val pw_e he) (h O σ H F _ M s fun v S' u H' F' e1 M1 r q => by
    obtain ⟨c, rfl, q⟩ := q
    cases r
    exact ⟨c, rfl, k c S' H' F' e1 M1 q⟩)
theorem tv_val (h : EV X e δ S (.d (.bool x))) (he : ∀ whole, isTrue e X.env whole = (do let v ← whole; standAt e.pos; holding [v] (truthy v)) := by intro _; rfl) : TV X e δ S x := tw_val (h.use ⟨x, rfl, rfl, rfl⟩) he
theorem wv_and1 (h : TV X a δ S x) : WV X (.BoolOp .And [a] pos) δ S x := .mk fun O σ H F Q M s k => to_w (pw_and1 pw_t) (h O σ H F Q M s k)
theorem wv_or1 (h : TV X a δ S x) : WV X (.BoolOp .Or [a] pos) δ S x := .mk fun O σ H F Q M s k => to_w (pw_or1 pw_t) (h O σ H F Q M s k)
theorem wv_and (h : TV X a δ S x) (h2 : x = true → WV X (.BoolOp .And (b :: rest) pos) δ S y) : WV X (.BoolOp .And (a :: b :: rest) pos) δ S (x && y) := .mk fun O σ H F Q M s k =>
  to_w (pw_and pw_t pw_w) (h O σ H F _ M s fun c S' H' F' e1 M1 q => by
    obtain ⟨rfl, rfl⟩ := q
    cases c with
    | true => exact iteT (h2 rfl O σ H' F' Q M1 (s.mono e1) (k.at e1))
    | false => exact iteF (k false _ H' F' e1 M1 ⟨rfl, rfl⟩))
theorem wv_or (h : TV X a δ S x) (h2 : x = false → WV X (.BoolOp .Or (b :: rest) pos) δ S y) : WV X (.BoolOp .Or (a :: b :: rest) pos) δ S (x || y) := .mk fun O σ H F Q M s k =>
  to_w (pw_or pw_t pw_w) (h O σ H F _ M s fun c S' H' F' e1 M1 q => by
    obtain ⟨rfl, rfl⟩ := q
    cases c with
    | true => exact iteT (k true _ H' F' e1 M1 ⟨rfl, rfl⟩)
    | false => exact iteF (h2 rfl O σ H' F' Q M1 (s.mono e1) (k.at e1)))
theorem tv_w (h : WV X e δ S x) : TV X e δ S x := .mk fun O σ H F Q M s k => to_t pw_w.pt (h O σ H F Q M s k)
theorem tv_not (h : TV X a δ S x) : TV X (.UnaryOp .Not a pos) δ S (!x) := .mk fun O σ H F Q M s k =>
  to_t (pt_not pw_t) (h O σ H F _ M s fun c S' H' F' e1 M1 q => by
    obtain ⟨rfl, rfl⟩ := q
    exact k _ _ H' F' e1 M1 ⟨rfl, rfl⟩)
theorem ww_and1 {R : Bool → Sto → Prop} (h : TW X a δ S R) : WW X (.BoolOp .And [a] pos) δ S R := .mk fun O σ H F Q M s k => to_w (pw_and1 pw_t) (h O σ H F Q M s k)
theorem ww_and {R : Bool → Sto → Prop} (h : TW X a δ S fun x S1 => if x = true then WW X (.BoolOp .And (b :: rest) pos) δ S1 R else R false S1) : WW X (.BoolOp .And (a :: b :: rest) pos) δ S R := .mk fun O σ H F Q M s k =>
  to_w (pw_and pw_t pw_w) (h O σ H F _ M s fun c S' H' F' e1 M1 q => by
    cases c with
    | true =>
      rw [if_pos rfl] at q
      exact iteT (q O σ H' F' Q M1 (s.mono e1) (k.at e1))
    | false =>
      rw [if_neg Bool.false_ne_true] at q
      exact iteF (k false _ H' F' e1 M1 q))
theorem tw_w {R : Bool → Sto → Prop} (h : WW X e δ S R) : TW X e δ S R := .mk fun O σ H F Q M s k => to_t pw_w.pt (h O σ H F Q M s k)
/-! as values -/
theorem ev_one {op : BoolOp} {v : SV} (h : EV X a δ S v) : EV X (.BoolOp op [a] pos) δ S v := .mk fun O σ H F Q M s k => to_e (pe_one pw_e) (h O σ H F Q M s k)
theorem ev_andV (h : EV X a δ S (.d (.bool x))) (h2 : x = true → EV X (.BoolOp .And (b :: rest) pos) δ S (.d (.bool y))) : EV X (.BoolOp .And (a :: b :: rest) pos) δ S (.d (.bool (x && y))) := .mk fun O σ H F Q M s k =>
  to_e (pe_and pw_e pw_e) (h O σ H F _ M s fun c S' v H' F' e1 M1 r q => by
    obtain ⟨rfl, rfl⟩ := q
    cases r
    refine ⟨x, rfl, ?_⟩
    cases x with
    | true => exact iteT (h2 rfl O σ H' F' Q M1 (s.mono e1) (k.at e1))
    | false => exact iteF ((k.at e1).dat M1 (Dp.bl _) ⟨rfl, rfl⟩))
theorem ev_orV (h : EV X a δ S (.d (.bool x))) (h2 : x = false → EV X (.BoolOp .Or (b :: rest) pos) δ S (.d (.bool y))) : EV X (.BoolOp .Or (a :: b :: rest) pos) δ S (.d (.bool (x || y))) := .mk fun O σ H F Q M s k =>
  to_e (pe_or pw_e pw_e) (h O σ H F _ M s fun c S' v H' F' e1 M1 r q => by
    obtain ⟨rfl, rfl⟩ := q
    cases r
    refine ⟨x, rfl, ?_⟩
    cases x with
    | true => exact iteT ((k.at e1).dat M1 (Dp.bl _) ⟨rfl, rfl⟩)
    | false => exact iteF (h2 rfl O σ H' F' Q M1 (s.mono e1) (k.at e1)))
theorem ev_notV (h : EV X a δ S (.d (.bool x))) : EV X (.UnaryOp .Not a pos) δ S (.d (.bool (!x))) := .mk fun O σ H F Q M s k =>
  to_e (pe_not pw_e) (h O σ H F _ M s fun c S' v H' F' e1 M1 r q => by
    obtain ⟨rfl, rfl⟩ := q
    cases r
    exact ⟨x, rfl, (k.at e1).dat M1 (Dp.bl _) ⟨rfl, rfl⟩⟩)
theorem ew_if {R : SV → Sto → Prop} (h : TV X c δ S x) (h1 : x = true → EW X a δ S R) (h2 : x = false → EW X b δ S R) : EW X (.IfExp c a b pos) δ S R := .mk fun O σ H F Q M s k =>
  to_e (pe_ifExp pw_t pw_e pw_e) (h O σ H F _ M s fun d S' H' F' e1 M1 q => by
    obtain ⟨rfl, rfl⟩ := q
    cases d with
    | true => exact iteT (h1 rfl O σ H' F' Q M1 (s.mono e1) (k.at e1))
    | false => exact iteF (h2 rfl O σ H' F' Q M1 (s.mono e1) (k.at e1)))
theorem ev_if {v : SV} (h : TV X c δ S x) (h1 : x = true → EV X a δ S v) (h2 : x = false → EV X b δ S v) : EV X (.IfExp c a b pos) δ S v := ew_if h h1 h2

/-! ### arguments, displays -/
theorem av_nil : AV X [] δ S [] := .mk fun O σ H F Q M s k => to_a pa_nil (k [] S [] H F (Same.refl _) M .nil ⟨rfl, rfl⟩)
theorem aw_nil {R : List SV → Sto → Prop} (h : R [] S) : AW X [] δ S R := .mk fun O σ H F Q M s k => to_a pa_nil (k [] S [] H F (Same.refl _) M .nil h)
theorem aw_cons {R : List SV → Sto → Prop} (h : EW X e δ S fun v S1 => AW X es δ S1 fun vs S2 => R (v :: vs) S2) (hs : starEach (e :: es) X.env = (false, eval e X.env) :: starEach es X.env := by rfl) : AW X (e :: es) δ S R := .mk fun O σ H F Q M s k =>
  to_a (pa_cons pw_e pw_a hs) (h O σ H F _ M s fun v S1 u H1 F1 e1 M1 r1 q => q O σ H1 F1 _ M1 (s.mono e1) fun vs S2 us H2 F2 e2 M2 r2 q2 => k _ _ _ _ _ (e1.trans e2) M2 (.cons (repV_mono e2 r1) r2) q2)
theorem av_cons {v : SV} {vs : List SV} (h : EV X e δ S v) (hr : AV X es δ S vs) (hs : starEach (e :: es) X.env = (false, eval e X.env) :: starEach es X.env := by rfl) : AV X (e :: es) δ S (v :: vs) := aw_cons (h.use (hr.use ⟨rfl, rfl⟩)) hs
def datL : List SV → Option (List PyData)
  | [] => some []
  | .d x :: r => (datL r).map (x :: ·)
  | .r _ :: _ => none
theorem datL_ok : ∀ {xs : List SV} {ds : List PyData}, datL xs = some ds → xs = ds.map SV.d
  | [], ds, h => by cases h; rfl
  | .d x :: r, ds, h => by
    cases q : datL r with
    | none => unfold datL at h; rw [q] at h; cases h
    | some es =>
      unfold datL at h; rw [q] at h
      cases h
      rw [datL_ok q]; rfl
  | .r _ :: _, ds, h => by cases h
theorem datL_map : ∀ {ds : List PyData}, datL (ds.map SV.d) = some ds
  | [] => rfl
  | d :: ds => by show (datL (ds.map SV.d)).map (d :: ·) = _; rw [datL_map]; rfl
theorem sz_ok {n : Nat} (h : Nat.ble n 100 = true) : n ≤ sizeLine := Nat.le_trans (Nat.le_of_ble_eq_true h) (by decide)
theorem ev_tup {n : Nat} {xs : List SV} {ds : List PyData} (h : AV X es δ S xs) (hd : datL xs = some ds := by rfl) (hz : Nat.ble ds.length 100 = true := by rfl) : EV X (.Tuple es n pos) δ S (.d (.tuple ds)) := .mk fun O σ H F Q M s k =>
  to_e (pe_tup pw_a) (h O σ H F _ M s fun v S1 u H1 F1 e1 M1 r1 q => by
    obtain ⟨rfl, rfl⟩ := q
    rw [datL_ok hd] at r1
    have r2 := repL_d r1
    exact ⟨by rw [dpAll_len r2]; exact sz_ok hz, fun q hq => (k.at e1).new M1 hq (fun F2 e2 h2 => .tup (SqT.of h2) (dpAll_mono e2 r2)) ⟨rfl, rfl⟩⟩)
theorem ev_lst {xs : List SV} {ds : List PyData} (h : AV X es δ S xs) (hd : datL xs = some ds := by rfl) (hz : Nat.ble ds.length 100 = true := by rfl) : EV X (.List es pos) δ S (.d (.list ds)) := .mk fun O σ H F Q M s k =>
  to_e (pe_lst pw_a) (h O σ H F _ M s fun v S1 u H1 F1 e1 M1 r1 q => by
    obtain ⟨rfl, rfl⟩ := q
    rw [datL_ok hd] at r1
    have r2 := repL_d r1
    exact ⟨by rw [dpAll_len r2]; exact sz_ok hz, fun q hq => (k.at e1).new M1 hq (fun F2 e2 h2 => .lst (SqL.of h2) (dpAll_mono e2 r2)) ⟨rfl, rfl⟩⟩)
theorem ew_tup {n : Nat} {R : SV → Sto → Prop} (h : AW X es δ S fun xs S1 => ∃ ds, datL xs = some ds ∧ ds.length ≤ sizeLine ∧ R (.d (.tuple ds)) S1) : EW X (.Tuple es n pos) δ S R := .mk fun O σ H F Q M s k =>
  to_e (pe_tup pw_a) (h O σ H F _ M s fun v S1 u H1 F1 e1 M1 r1 q => by
    obtain ⟨ds, hd, hz, q⟩ := q
    rw [datL_ok hd] at r1
    have r2 := repL_d r1
    exact ⟨by rw [dpAll_len r2]; exact hz, fun p hp => (k.at e1).new M1 hp (fun F2 e2 h2 => .tup (SqT.of h2) (dpAll_mono e2 r2)) q⟩)
theorem ew_lst {R : SV → Sto → Prop} (h : AW X es δ S fun xs S1 => ∃ ds, datL xs = some ds ∧ ds.length ≤ sizeLine ∧ R (.d (.list ds)) S1) : EW X (.List es pos) δ S R := .mk fun O σ H F Q M s k =>
  to_e (pe_lst pw_a) (h O σ H F _ M s fun v S1 u H1 F1 e1 M1 r1 q => by
    obtain ⟨ds, hd, hz, q⟩ := q
    rw [datL_ok hd] at r1
    have r2 := repL_d r1
    exact ⟨by rw [dpAll_len r2]; exact hz, fun p hp => (k.at e1).new M1 hp (fun F2 e2 h2 => .lst (SqL.of h2) (dpAll_mono e2 r2)) q⟩)
/-- a list display as a new own object -/
theorem ew_lstO {R : SV → Sto → Prop} (h : AW X es δ S fun xs S1 => xs.length ≤ sizeLine ∧ ∀ p, S1 p = none → R (.r p) (supd S1 p (.lst xs))) : EW X (.List es pos) δ S R := .mk fun O σ H F Q M s k =>
  to_e (pe_lst pw_a) (h O σ H F _ M s fun xs S1 vs H1 F1 e1 M1 r1 q =>
    ⟨by rw [repL_len r1]; exact q.1, fun p hp => k (.r p) _ (.ref p) _ _ e1 (M1.own (m := .lst xs) hp ⟨vs, rfl, r1⟩) rfl (q.2 p (M1.nS hp))⟩)
theorem ew_dctO {R : SV → Sto → Prop} (h : ∀ p, S p = none → R (.r p) (supd S p (.dct []))) : EW X (.Dict [] [] pos) δ S R := .mk fun O σ H F Q M s k =>
  to_e pe_dnewK fun p hp => k (.r p) _ (.ref p) _ _ (Same.refl _) (M.own (m := .dct []) hp ⟨[], rfl, .nil⟩) rfl (h p (M.nS hp))

/-! ### subscripts -/
theorem ev_ixT {ds : List PyData} {i : Int} {d : PyData} (ha : EV X a δ S (.d (.tuple ds))) (hb : EV X b δ S (.d (.int i))) (h : atI ds i = some d) (hs : PlainIx b := by exact fun _ _ => rfl) : EV X (.Subscript a b pos) δ S (.d d) :=
  ev_tOp (pe_ix ix_tup pw_e pw_e hs) ha hb fun O H F v w Q M rv rw' k => by
    cases rw'
    cases rv with
    | @tup p xs _ ht hall =>
      unfold atI at h
      cases q : ixN ds.length i with
      | none => rw [q] at h; cases h
      | some j =>
        rw [q] at h
        obtain ⟨u, h1, h2⟩ := dpAll_get hall (show ds[j]? = some d from h)
        exact ⟨p, xs, i, u, rfl, rfl, sqT_mono M.fr ht, by unfold atI; rw [dpAll_len hall, q]; exact h1, k.dat M h2 ⟨rfl, rfl⟩⟩
theorem ev_ixL {ds : List PyData} {i : Int} {d : PyData} (ha : EV X a δ S (.d (.list ds))) (hb : EV X b δ S (.d (.int i))) (h : atI ds i = some d) (hs : PlainIx b := by exact fun _ _ => rfl) : EV X (.Subscript a b pos) δ S (.d d) :=
  ev_tOp (pe_ix ix_list pw_e pw_e hs) ha hb fun O H F v w Q M rv rw' k => by
    cases rw'
    cases rv with
    | @lst p xs _ ht hall =>
      unfold atI at h
      cases q : ixN ds.length i with
      | none => rw [q] at h; cases h
      | some j =>
        rw [q] at h
        obtain ⟨u, h1, h2⟩ := dpAll_get hall (show ds[j]? = some d from h)
        exact ⟨p, xs, i, u, rfl, rfl, M.fr.seq ht, by unfold atI; rw [dpAll_len hall, q]; exact h1, k.dat M h2 ⟨rfl, rfl⟩⟩
/-- at an own list -/
theorem ew_ixL {R : SV → Sto → Prop} (h : EW X a δ S fun v S1 => EW X b δ S1 fun w S2 => ∃ p xs i x, v = .r p ∧ w = .d (.int i) ∧ S2 p = some (.lst xs) ∧ atI xs i = some x ∧ R x S2) (hs : PlainIx b := by exact fun _ _ => rfl) : EW X (.Subscript a b pos) δ S R :=
  ew_tOp (pe_ix ix_list pw_e pw_e hs) (h.mono fun x S1 q => q.mono fun y S2 q O H F v w Q M rv rw' k => by
    obtain ⟨p, xs, i, z, rfl, rfl, h1, h2, q⟩ := q
    cases rw'
    cases rv
    obtain ⟨ho, e1, vs, rfl, rl⟩ := M.sto p _ h1
    unfold atI at h2
    cases e2 : ixN xs.length i with
    | none => rw [e2] at h2; cases h2
    | some j =>
      rw [e2] at h2
      obtain ⟨u, g1, g2⟩ := repL_get rl (show xs[j]? = some z from h2)
      exact ⟨p, vs, i, u, rfl, rfl, SqL.of e1, by unfold atI; rw [repL_len rl, e2]; exact g1, k.rep M g2 q⟩)
/-! ### sums of tuples, of lists -/
theorem ev_catT {ds es' : List PyData} (ha : EV X a δ S (.d (.tuple ds))) (hb : EV X b δ S (.d (.tuple es'))) (hz : ds.length + es'.length ≤ sizeLine) : EV X (.BinOp a .Add b pos) δ S (.d (.tuple (ds ++ es'))) :=
  ev_tOp (pe_op op_catA pw_e pw_e) ha hb fun O H F v w Q M rv rw' k => by
    cases rv with
    | @tup p xs _ h1 a1 =>
      cases rw' with
      | @tup q ys _ h2 a2 =>
        have l1 := dpAll_len a1
        have l2 := dpAll_len a2
        refine ⟨p, q, xs, ys, rfl, rfl, sqT_mono M.fr h1, sqT_mono M.fr h2, by rw [l1, l2]; exact hz, fun e1 => ?_, fun _ e1 => ?_, fun _ _ p hp => ?_⟩
        · subst e1
          cases ds with
          | nil => exact k.dat M (.tup h2 a2) ⟨rfl, rfl⟩
          | cons _ _ => cases l1
        · subst e1
          cases es' with
          | nil => exact k.dat M (by rw [List.append_nil]; exact .tup h1 a1) ⟨rfl, rfl⟩
          | cons _ _ => cases l2
        · exact k.new M hp (fun F2 e2 h => .tup (SqT.of h) (repL_d (by rw [List.map_append]; exact pair_app (repL_mono e2 (repL_of a1)) (repL_mono e2 (repL_of a2))))) ⟨rfl, rfl⟩
end
end K23
/-! DL, part 4: calls of defs and built-ins, slices, sums of lists -/
namespace K23
open PySem PySem.Spec PyProof.Rows L2

abbrev St1 (X : Cx) (e : Expr) : Prop := starEach [e] X.env = (false, eval e X.env) :: starEach [] X.env
abbrev St2 (X : Cx) (a b : Expr) : Prop := starEach [a, b] X.env = (false, eval a X.env) :: starEach [b] X.env
section
variable {Z : Zx} {X : Cx} {N : List Str} {sc : Scope} {bs ls : List Bool} {gs : List Str} {k : Nat} [B : Bd Z X N sc bs ls gs k]
variable {a b e : Expr} {es : List Expr} {δ : Dl} {S : Sto} {pos p apos : Pos}
include B
/-- a call of a def of the module -/
theorem ew_call {x : Str} {ps : List Str} {j : Nat} {c : Ct} {R : SV → Sto → Prop} [g : GAt gs x] [h : HasFn Z x ps j c] (hj : j ≤ k) (ha : AW X (e :: es) δ S fun xs S1 => c xs S1 R)
    (he : starEach (e :: es) X.env = (false, eval e X.env) :: starEach es X.env := by rfl) (hpl : (backTo pos (starEach es X.env)).any (·.1) = false := by rfl) : EW X (.Call (.Name x p) (e :: es) [] pos) δ S R := .mk fun O σ H F Q M s q => by
  obtain ⟨f, fd, h1, h2, h3, h4⟩ := h.h
  obtain ⟨g1, g2, _⟩ := B.gl x g.h
  refine to_e (pe_call (CX := CX0) (E := E0) (k := j) (f := f) (fd := fd) (ps := ps) (sp := spC X.K c) (dvs := []) (ds := []) (by rw [B.prog, B.w, B.K, B.mg, B.base]; exact h4) (B.room.mono hj) g1 (by rw [B.mg]; exact h1) (by rw [B.K]; exact h2) (by rw [B.K]; exact h3) .nil pass0 pw_a g2 he hpl) ?_
  exact ha O σ H F _ M s fun xs S1 vs H1 F1 e1 M1 r1 hc => by
    rw [List.append_nil]
    exact ⟨O, F1, S1, xs, R, M1, r1, hc, q.at e1⟩
theorem ev_call {x : Str} {ps : List Str} {j : Nat} {c : Ct} {xs : List SV} {v : SV} [g : GAt gs x] [h : HasFn Z x ps j c] (ha : AV X (e :: es) δ S xs) (hc : c xs S fun y S' => y = v ∧ S' = S) (hj : j ≤ k := by decide)
    (he : starEach (e :: es) X.env = (false, eval e X.env) :: starEach es X.env := by rfl) (hpl : (backTo pos (starEach es X.env)).any (·.1) = false := by rfl) : EV X (.Call (.Name x p) (e :: es) [] pos) δ S v :=
  ew_call hj (ha.use hc) he hpl
/-- a built-in function, a built-in class -/
theorem ew_callB {x : Str} {id : String} {r : List V → Hp → VK → Prop} {R : SV → Sto → Prop} [g : GAt gs x] [f : Free Z x] (hc : CallR X (.builtin id) r) (hv : bootBuiltins x = some (.builtin id)) (ha : AW X (e :: es) δ S fun xs S1 => LW X r xs S1 R)
    (he : starEach (e :: es) X.env = (false, eval e X.env) :: starEach es X.env := by rfl) (hpl : (backTo pos (starEach es X.env)).any (·.1) = false := by rfl) : EW X (.Call (.Name x p) (e :: es) [] pos) δ S R :=
  let ⟨g1, g2, g3⟩ := B.gl x g.h
  ew_tCB (pe_callB hc g1 (by rw [B.mg]; exact f.h) hv pw_a g3 g2 he hpl) ha
theorem ew_callTy {x : Str} {T : String} {r : List V → Hp → VK → Prop} {R : SV → Sto → Prop} [g : GAt gs x] [f : Free Z x] (hc : CallR X (.type T) r) (hv : bootBuiltins x = some (.type T)) (ha : AW X (e :: es) δ S fun xs S1 => LW X r xs S1 R)
    (he : starEach (e :: es) X.env = (false, eval e X.env) :: starEach es X.env := by rfl) (hpl : (backTo pos (starEach es X.env)).any (·.1) = false := by rfl) : EW X (.Call (.Name x p) (e :: es) [] pos) δ S R :=
  let ⟨g1, g2, g3⟩ := B.gl x g.h
  ew_tCB (pe_callTy hc g1 (by rw [B.mg]; exact f.h) hv pw_a g3 g2 he hpl) ha
omit B in
theorem rep1 {K : Fg} {F : Hp} {vs : List V} {x : SV} (h : RepL K F vs [x]) : ∃ v, vs = [v] ∧ RepV K F v x := by
  cases h with
  | cons r t => cases t; exact ⟨_, rfl, r⟩
omit B in
theorem rep2 {K : Fg} {F : Hp} {vs : List V} {x y : SV} (h : RepL K F vs [x, y]) : ∃ v w, vs = [v, w] ∧ RepV K F v x ∧ RepV K F w y := by
  cases h with
  | cons r t => obtain ⟨w, rfl, r2⟩ := rep1 t; exact ⟨_, w, rfl, r, r2⟩
section
variable [g : GAt gs "len"] [f : Free Z "len"]
theorem ev_lenT {ds : List PyData} (ha : EV X e δ S (.d (.tuple ds))) (s1 : St1 X e := by exact rfl) : EV X (.Call (.Name "len" p) [e] [] pos) δ S (.d (.int ds.length)) :=
  ew_callB call_len_seq boot_len (AV.use (av_cons ha av_nil s1) fun O H F vs Q M r k => by
    obtain ⟨v, rfl, r0⟩ := rep1 r
    cases r0 with
    | @tup q xs _ h1 h2 => exact ⟨q, xs, rfl, .inr (sqT_mono M.fr h1), k.dat M (by rw [dpAll_len h2]; exact .int _) ⟨rfl, rfl⟩⟩) s1
theorem ev_lenL {ds : List PyData} (ha : EV X e δ S (.d (.list ds))) (s1 : St1 X e := by exact rfl) : EV X (.Call (.Name "len" p) [e] [] pos) δ S (.d (.int ds.length)) :=
  ew_callB call_len_seq boot_len (AV.use (av_cons ha av_nil s1) fun O H F vs Q M r k => by
    obtain ⟨v, rfl, r0⟩ := rep1 r
    cases r0 with
    | @lst q xs _ h1 h2 => exact ⟨q, xs, rfl, .inl (M.fr.seq h1), k.dat M (by rw [dpAll_len h2]; exact .int _) ⟨rfl, rfl⟩⟩) s1
theorem ev_lenS {z : Str} (ha : EV X e δ S (.d (.str z))) (hz : z.length ≤ sizeLine) (s1 : St1 X e := by exact rfl) : EV X (.Call (.Name "len" p) [e] [] pos) δ S (.d (.int z.length)) :=
  ew_callB call_len_str boot_len (AV.use (av_cons ha av_nil s1) fun O H F vs Q M r k => by
    obtain ⟨v, rfl, r0⟩ := rep1 r
    cases r0
    exact ⟨z, rfl, hz, k.dat M (.int _) ⟨rfl, rfl⟩⟩) s1
/-- of an own list -/
theorem ew_lenO {R : SV → Sto → Prop} (ha : EW X e δ S fun v S1 => ∃ q xs, v = .r q ∧ S1 q = some (.lst xs) ∧ R (.d (.int xs.length)) S1) (s1 : St1 X e := by exact rfl) : EW X (.Call (.Name "len" p) [e] [] pos) δ S R :=
  ew_callB call_len_seq boot_len (aw_cons (ha.mono fun v S1 q => aw_nil fun O H F vs Q M r k => by
    obtain ⟨q, xs, rfl, h1, h2⟩ := q
    obtain ⟨v, rfl, r0⟩ := rep1 r
    obtain ⟨ho, e1, us, rfl, rl⟩ := M.sto q _ h1
    cases r0
    exact ⟨q, us, rfl, .inl (SqL.of e1), k.dat M (by rw [repL_len rl]; exact .int _) h2⟩) s1) s1
/-- of an own dict -/
theorem ew_lenD {R : SV → Sto → Prop} (ha : EW X e δ S fun v S1 => ∃ q xs, v = .r q ∧ S1 q = some (.dct xs) ∧ R (.d (.int xs.length)) S1) (s1 : St1 X e := by exact rfl) : EW X (.Call (.Name "len" p) [e] [] pos) δ S R :=
  ew_callB call_lenD boot_len (aw_cons (ha.mono fun v S1 q => aw_nil fun O H F vs Q M r k => by
    obtain ⟨q, xs, rfl, h1, h2⟩ := q
    obtain ⟨v, rfl, r0⟩ := rep1 r
    obtain ⟨ho, e1, us, rfl, rl⟩ := M.sto q _ h1
    cases r0
    exact ⟨q, us, rfl, e1, k.dat M (by rw [Paired.length rl]; exact .int _) h2⟩) s1) s1
end
section
variable [g : GAt gs "tuple"] [f : Free Z "tuple"]
theorem ev_tupleL {ds : List PyData} (ha : EV X e δ S (.d (.list ds))) (s1 : St1 X e := by exact rfl) : EV X (.Call (.Name "tuple" p) [e] [] pos) δ S (.d (.tuple ds)) :=
  ew_callTy call_tuple_of (by decide +kernel) (AV.use (av_cons ha av_nil s1) fun O H F vs Q M r k => by
    obtain ⟨v, rfl, r0⟩ := rep1 r
    cases r0 with
    | @lst q xs _ h1 h2 => exact ⟨q, xs, rfl, .inl ⟨M.fr.seq h1, fun l hl => k.new M hl (fun F2 e2 h => .tup (SqT.of h) (dpAll_mono e2 h2)) ⟨rfl, rfl⟩⟩⟩) s1
theorem ew_tupleL {R : SV → Sto → Prop} (ha : EW X e δ S fun v S1 => ∃ ds, v = .d (.list ds) ∧ R (.d (.tuple ds)) S1) (s1 : St1 X e := by exact rfl) : EW X (.Call (.Name "tuple" p) [e] [] pos) δ S R :=
  ew_callTy call_tuple_of (by decide +kernel) (aw_cons (ha.mono fun v S1 q => aw_nil fun O H F vs Q M r k => by
    obtain ⟨ds, rfl, h2⟩ := q
    obtain ⟨v, rfl, r0⟩ := rep1 r
    cases r0 with
    | @lst q xs _ h1 h3 => exact ⟨q, xs, rfl, .inl ⟨M.fr.seq h1, fun l hl => k.new M hl (fun F2 e2 h => .tup (SqT.of h) (dpAll_mono e2 h3)) h2⟩⟩) s1) s1
/-- of an own list -/
theorem ew_tupleO {R : SV → Sto → Prop} (ha : EW X e δ S fun v S1 => ∃ q ds, v = .r q ∧ S1 q = some (.lst (ds.map SV.d)) ∧ R (.d (.tuple ds)) S1) (s1 : St1 X e := by exact rfl) : EW X (.Call (.Name "tuple" p) [e] [] pos) δ S R :=
  ew_callTy call_tuple_of (by decide +kernel) (aw_cons (ha.mono fun v S1 q => aw_nil fun O H F vs Q M r k => by
    obtain ⟨q, ds, rfl, h1, h2⟩ := q
    obtain ⟨v, rfl, r0⟩ := rep1 r
    obtain ⟨ho, e1, us, rfl, rl⟩ := M.sto q _ h1
    cases r0
    exact ⟨q, us, rfl, .inl ⟨SqL.of e1, fun l hl => k.new M hl (fun F2 e2 h => .tup (SqT.of h) (dpAll_mono e2 (repL_d rl))) h2⟩⟩) s1) s1
end
section
variable [g : GAt gs "list"] [f : Free Z "list"]
theorem ev_listT {ds : List PyData} (ha : EV X e δ S (.d (.tuple ds))) (s1 : St1 X e := by exact rfl) : EV X (.Call (.Name "list" p) [e] [] pos) δ S (.d (.list ds)) :=
  ew_callTy call_list_of (by decide +kernel) (AV.use (av_cons ha av_nil s1) fun O H F vs Q M r k => by
    obtain ⟨v, rfl, r0⟩ := rep1 r
    cases r0 with
    | @tup q xs _ h1 h2 => exact ⟨q, xs, rfl, .inr (sqT_mono M.fr h1), fun l hl => k.new M hl (fun F2 e2 h => .lst (SqL.of h) (dpAll_mono e2 h2)) ⟨rfl, rfl⟩⟩) s1
/-- list(t) as an own list -/
theorem ew_listTO {ds : List PyData} {R : SV → Sto → Prop} (ha : EV X e δ S (.d (.tuple ds))) (h : ∀ l, S l = none → R (.r l) (supd S l (.lst (ds.map SV.d)))) (s1 : St1 X e := by exact rfl) : EW X (.Call (.Name "list" p) [e] [] pos) δ S R :=
  ew_callTy call_list_of (by decide +kernel) (AV.use (av_cons ha av_nil s1) fun O H F vs Q M r k => by
    obtain ⟨v, rfl, r0⟩ := rep1 r
    cases r0 with
    | @tup q xs _ h1 h2 => exact ⟨q, xs, rfl, .inr (sqT_mono M.fr h1), fun l hl => k (.r l) _ (.ref l) _ _ (Same.refl _) (M.own (m := .lst (ds.map SV.d)) hl ⟨xs, rfl, repL_of h2⟩) rfl (h l (M.nS hl))⟩) s1
def keyD : Key → PyData
  | .inl i => .int i
  | .inr x => .str x
omit B in
theorem kV_dp {K : Fg} {F : Hp} : ∀ k : Key, Dp K F (kV k) (keyD k)
  | .inl _ => .int _
  | .inr _ => .str _
omit B in
theorem keys_dp {K : Fg} {F F2 : Hp} {us : List (Key × V)} {kvs : List (Key × SV)} (h : RepK K F us kvs) : DpAll K F2 (us.map fun kv => kV kv.1) (kvs.map fun kv => keyD kv.1) := by
  induction h with
  | nil => exact .nil
  | @cons p1 p2 _ _ r _ ih =>
    refine .cons ?_ ih
    show Dp K F2 (kV p1.1) (keyD p2.1)
    rw [r.1]; exact kV_dp _
/-- the keys of an own dict -/
theorem ew_listD {R : SV → Sto → Prop} (ha : EW X e δ S fun v S1 => ∃ q kvs, v = .r q ∧ S1 q = some (.dct kvs) ∧ R (.d (.list (kvs.map fun kv => keyD kv.1))) S1) (s1 : St1 X e := by exact rfl) : EW X (.Call (.Name "list" p) [e] [] pos) δ S R :=
  ew_callTy (call_list_dK B.calm) (by decide +kernel) (aw_cons (ha.mono fun v S1 q => aw_nil fun O H F vs Q M r k => by
    obtain ⟨q, kvs, rfl, h1, h2⟩ := q
    obtain ⟨v, rfl, r0⟩ := rep1 r
    obtain ⟨ho, e1, us, rfl, rl⟩ := M.sto q _ h1
    cases r0
    exact ⟨q, us, rfl, e1, fun l hl => k.new M hl (fun F2 e2 h => .lst (SqL.of h) (keys_dp rl)) h2⟩) s1) s1
end
theorem ev_max2 {i j : Int} [g : GAt gs "max"] [f : Free Z "max"] (ha : EV X a δ S (.d (.int i))) (hb : EV X b δ S (.d (.int j))) (s2 : St2 X a b := by exact rfl) (s1 : St1 X b := by exact rfl) : EV X (.Call (.Name "max" p) [a, b] [] pos) δ S (.d (.int (if j > i then j else i))) :=
  ew_callB (call_max2 B.calm) (by decide +kernel) (AV.use (av_cons ha (av_cons hb av_nil s1) s2) fun O H F vs Q M r k => by
    obtain ⟨v, w, rfl, r1, r2⟩ := rep2 r
    cases r1; cases r2
    exact ⟨i, j, rfl, k.dat M (.int _) ⟨rfl, rfl⟩⟩) s2 (by rw [s1]; rfl)
theorem ev_min2 {i j : Int} [g : GAt gs "min"] [f : Free Z "min"] (ha : EV X a δ S (.d (.int i))) (hb : EV X b δ S (.d (.int j))) (s2 : St2 X a b := by exact rfl) (s1 : St1 X b := by exact rfl) : EV X (.Call (.Name "min" p) [a, b] [] pos) δ S (.d (.int (if j < i then j else i))) :=
  ew_callB (call_min2 B.calm) (by decide +kernel) (AV.use (av_cons ha (av_cons hb av_nil s1) s2) fun O H F vs Q M r k => by
    obtain ⟨v, w, rfl, r1, r2⟩ := rep2 r
    cases r1; cases r2
    exact ⟨i, j, rfl, k.dat M (.int _) ⟨rfl, rfl⟩⟩) s2 (by rw [s1]; rfl)
theorem ev_abs {i : Int} [g : GAt gs "abs"] [f : Free Z "abs"] (ha : EV X a δ S (.d (.int i))) (s1 : St1 X a := by exact rfl) : EV X (.Call (.Name "abs" p) [a] [] pos) δ S (.d (.int (if i < 0 then -i else i))) :=
  ew_callB call_abs (by decide +kernel) (AV.use (av_cons ha av_nil s1) fun O H F vs Q M r k => by
    obtain ⟨v, rfl, r1⟩ := rep1 r
    cases r1
    exact ⟨i, rfl, k.dat M (.int _) ⟨rfl, rfl⟩⟩) s1
theorem ew_int {R : SV → Sto → Prop} [g : GAt gs "int"] [f : Free Z "int"] (ha : EW X a δ S fun v S1 => ∃ i, v = .d (.int i) ∧ R (.d (.int i)) S1) (s1 : St1 X a := by exact rfl) : EW X (.Call (.Name "int" p) [a] [] pos) δ S R :=
  ew_callTy call_int1 (by decide +kernel) (aw_cons (ha.mono fun v S1 q => aw_nil fun O H F vs Q M r k => by
    obtain ⟨i, rfl, q⟩ := q
    obtain ⟨v, rfl, r1⟩ := rep1 r
    cases r1
    exact .inl ⟨i, rfl, k.dat M (.int _) q⟩) s1) s1
theorem ev_int1 {i : Int} [g : GAt gs "int"] [f : Free Z "int"] (ha : EV X a δ S (.d (.int i))) (s1 : St1 X a := by exact rfl) : EV X (.Call (.Name "int" p) [a] [] pos) δ S (.d (.int i)) := ew_int (ha.use ⟨i, rfl, rfl, rfl⟩) s1
theorem ew_intB {R : SV → Sto → Prop} [g : GAt gs "int"] [f : Free Z "int"] (ha : EW X a δ S fun v S1 => ∃ b : Bool, v = .d (.bool b) ∧ R (.d (.int (if b then 1 else 0))) S1) (s1 : St1 X a := by exact rfl) : EW X (.Call (.Name "int" p) [a] [] pos) δ S R :=
  ew_callTy call_int1 (by decide +kernel) (aw_cons (ha.mono fun v S1 q => aw_nil fun O H F vs Q M r k => by
    obtain ⟨i, rfl, q⟩ := q
    obtain ⟨v, rfl, r1⟩ := rep1 r
    cases r1
    exact .inr ⟨i, rfl, k.dat M (.int _) q⟩) s1) s1
omit B in
theorem bools_of {K : Fg} {F : Hp} : ∀ {bs' : List Bool} {vs : List V}, DpAll K F vs (bs'.map PyData.bool) → vs = bs'.map V.bl
  | [], _, h => by cases h; rfl
  | b :: bs', _, h => by
    cases h with
    | cons h t => cases h; rw [bools_of t]; rfl
theorem ev_all {cs : List Bool} [g : GAt gs "all"] [f : Free Z "all"] (ha : EV X e δ S (.d (.list (cs.map PyData.bool)))) (s1 : St1 X e := by exact rfl) : EV X (.Call (.Name "all" p) [e] [] pos) δ S (.d (.bool (cs.all id))) :=
  ew_callB (cr_all B.calm) (by decide +kernel) (AV.use (av_cons ha av_nil s1) fun O H F vs Q M r k => by
    obtain ⟨v, rfl, r0⟩ := rep1 r
    cases r0 with
    | @lst q xs _ h1 h2 => exact ⟨q, cs, rfl, by rw [← bools_of h2]; exact M.fr.seq h1, k.dat M (.bl _) ⟨rfl, rfl⟩⟩) s1
omit B in
theorem ints_of {K : Fg} {F : Hp} : ∀ {ns : List Int} {vs : List V}, DpAll K F vs (ns.map PyData.int) → vs = ns.map V.int
  | [], _, h => by cases h; rfl
  | b :: bs', _, h => by
    cases h with
    | cons h t => cases h; rw [ints_of t]; rfl
omit B in
theorem dp_ints {K : Fg} {F : Hp} : ∀ ns : List Int, DpAll K F (ns.map V.int) (ns.map PyData.int)
  | [] => .nil
  | _ :: r => .cons (.int _) (dp_ints r)
/-- sorted of ints -/
theorem ew_sorted {ns : List Int} {R : SV → Sto → Prop} [g : GAt gs "sorted"] [f : Free Z "sorted"] (ha : EV X e δ S (.d (.list (ns.map PyData.int)))) (h : ∀ ms : List Int, ms.Perm ns → ms.Pairwise (· ≤ ·) → R (.d (.list (ms.map PyData.int))) S) (s1 : St1 X e := by exact rfl) : EW X (.Call (.Name "sorted" p) [e] [] pos) δ S R :=
  ew_callB cr_sortedI (by decide +kernel) (AV.use (av_cons ha av_nil s1) fun O H F vs Q M r k => by
    obtain ⟨v, rfl, r0⟩ := rep1 r
    cases r0 with
    | @lst q xs _ h1 h2 => exact ⟨q, ns, rfl, by rw [← ints_of h2]; exact M.fr.seq h1, fun ms l hp hs hl => k.new M hl (fun F2 e2 hh => .lst (SqL.of hh) (dp_ints ms)) (h ms hp hs)⟩) s1
end
end K23
/-! DL, part 5: slices, own lists and dicts, methods, isinstance, the rest -/
namespace K23
open PySem PySem.Spec PyProof.Rows L2

section
variable {X : Cx} {a b e : Expr} {es : List Expr} {δ : Dl} {S : Sto} {pos p2 p apos : Pos}
/-- an own list is handed on as plain data -/
theorem ew_frz {R : SV → Sto → Prop} (h : EW X e δ S fun v S1 => ∃ p ds S2, v = .r p ∧ S1 p = some (.lst (ds.map SV.d)) ∧ SLe S2 S1 ∧ S2 p = none ∧ R (.d (.list ds)) S2) : EW X e δ S R := .mk fun O σ H F Q M s k =>
  h O σ H F Q M s fun v S1 u H1 F1 e1 M1 r1 q => by
    obtain ⟨p, ds, S2, rfl, h1, h2, h3, q⟩ := q
    obtain ⟨ho, g1, ⟨vs, rfl, rl⟩, nf, M2⟩ := M1.freeze h1 h2 h3
    cases r1
    exact k (.d (.list ds)) S2 (.ref p) H1 _ (e1.trans (same_upd nf)) M2 (show Dp X.K (upd F1 p (.lst vs)) (.ref p) (.list ds) from .lst (SqL.of upd_same) (dpAll_mono (same_upd nf) (repL_d rl))) q
/-- parts of a slice -/
def wpO (X : Cx) (o : Option Expr) : TO := fun σ H Q => ∀ (pins : List (Addr × Obj)) (s : Shared), Inv X pins σ H s → wpAny (model X.prog X.w) X.A (evalPart o X.env) (fun u s' => ∃ o H', Inv X pins σ H' s' ∧ IsPart u o ∧ Q o H') X.xe s
theorem pw_o {o : Option Expr} : PO X o (wpO X o) := ⟨fun p s _ _ _ I h => h p s I⟩
theorem to_o {o : Option Expr} {t : TO} {σ : L2.St} {H : Hp} {Q : Option Int → Hp → Prop} (h : PO X o t) (q : t σ H Q) : wpO X o σ H Q := fun p s I => h.run p s σ H Q I q
def OV (X : Cx) (o : Option Expr) (δ : Dl) (S : Sto) (i : Option Int) : Prop := ∀ O σ H F Q, Mem X.K O H F S → Slots X.K F σ δ → (∀ H' F', Same F F' → Mem X.K O H' F' S → Q i H') → wpO X o σ H Q
theorem ov_none : OV X none δ S none := fun O σ H F Q M s k => to_o po_none (k H F (Same.refl _) M)
theorem ov_some {i : Int} (h : EV X e δ S (.d (.int i))) : OV X (some e) δ S (some i) := fun O σ H F Q M s k =>
  to_o (po_some pw_e) (h O σ H F _ M s fun v S1 u H1 F1 e1 M1 r1 q => by
    obtain ⟨rfl, rfl⟩ := q
    cases r1
    exact ⟨i, rfl, k H1 F1 e1 M1⟩)
def cutD {α : Type} (xs : List α) (lo hi : Option Int) : List α := (xs.drop (HT.sIx xs.length 0 lo)).take (HT.sIx xs.length xs.length hi - HT.sIx xs.length 0 lo)
theorem pair_drop {α β : Type} {F : α → β → Prop} : ∀ (n : Nat) {xs : List α} {ys : List β}, Paired F xs ys → Paired F (xs.drop n) (ys.drop n)
  | 0, _, _, h => h
  | _ + 1, _, _, .nil => .nil
  | n + 1, _, _, .cons _ t => pair_drop n t
theorem pair_take {α β : Type} {F : α → β → Prop} : ∀ (n : Nat) {xs : List α} {ys : List β}, Paired F xs ys → Paired F (xs.take n) (ys.take n)
  | 0, _, _, _ => .nil
  | _ + 1, _, _, .nil => .nil
  | n + 1, _, _, .cons r t => .cons r (pair_take n t)
theorem pair_cut {β : Type} {F : V → β → Prop} {xs : List V} {ys : List β} (h : Paired F xs ys) (lo hi : Option Int) : Paired F (cutV xs lo hi) (cutD ys lo hi) := by
  unfold cutV cutD
  rw [Paired.length h]
  exact pair_take _ (pair_drop _ h)
theorem cutD_map {α β : Type} (f : α → β) (xs : List α) (lo hi : Option Int) : cutD (xs.map f) lo hi = (cutD xs lo hi).map f := by
  unfold cutD
  rw [List.length_map, List.map_take, List.map_drop]
theorem dpAll_cut {K : Fg} {F : Hp} {vs : List V} {ds : List PyData} (h : DpAll K F vs ds) (lo hi : Option Int) : DpAll K F (cutV vs lo hi) (cutD ds lo hi) := repL_d (by rw [← cutD_map]; exact pair_cut (repL_of h) lo hi)
theorem ev_slT {ds : List PyData} {lo hi : Option Expr} {l u : Option Int} (ha : EV X a δ S (.d (.tuple ds))) (hl : OV X lo δ S l) (hu : OV X hi δ S u) : EV X (.Subscript a (.Slice lo hi none p2) pos) δ S (.d (.tuple (cutD ds l u))) := .mk fun O σ H F Q M s k =>
  to_e (pe_slice sl_tupA pw_e pw_o pw_o) (ha O σ H F _ M s fun v S1 w H1 F1 e1 M1 r1 q => by
    obtain ⟨rfl, rfl⟩ := q
    refine hl O σ H1 F1 _ M1 (s.mono e1) fun H2 F2 e2 M2 => hu O σ H2 F2 _ M2 (s.mono (e1.trans e2)) fun H3 F3 e3 M3 => ?_
    cases r1 with
    | @tup q xs _ h1 h2 =>
      have e4 := e2.trans e3
      have h2' := dpAll_mono e4 h2
      refine ⟨q, xs, rfl, sqT_mono M3.fr (sqT_mono e4 h1), fun z => ?_, fun _ p hp => ?_⟩
      · refine (k.at (e1.trans e4)).dat M3 ?_ ⟨rfl, rfl⟩
        have c : cutD ds l u = ds := by
          unfold cutD
          rw [← dpAll_len h2, z.1, z.2, List.drop_zero, Nat.sub_zero, dpAll_len h2, List.take_length]
        rw [c]
        exact .tup (sqT_mono e4 h1) h2'
      · exact (k.at (e1.trans e4)).new M3 hp (fun F4 e5 h => .tup (SqT.of h) (dpAll_cut (dpAll_mono e5 h2') l u)) ⟨rfl, rfl⟩)
theorem ev_slS {z : Str} {lo hi : Option Expr} {l u : Option Int} (ha : EV X a δ S (.d (.str z))) (hl : OV X lo δ S l) (hu : OV X hi δ S u) (hz : z.length ≤ sizeLine) : EV X (.Subscript a (.Slice lo hi none p2) pos) δ S (.d (.str (cutS z l u))) := .mk fun O σ H F Q M s k =>
  to_e (pe_slice sl_str pw_e pw_o pw_o) (ha O σ H F _ M s fun v S1 w H1 F1 e1 M1 r1 q => by
    obtain ⟨rfl, rfl⟩ := q
    refine hl O σ H1 F1 _ M1 (s.mono e1) fun H2 F2 e2 M2 => hu O σ H2 F2 _ M2 (s.mono (e1.trans e2)) fun H3 F3 e3 M3 => ?_
    cases r1
    exact ⟨z, rfl, hz, (k.at (e1.trans (e2.trans e3))).dat M3 (.str _) ⟨rfl, rfl⟩⟩)
/-- of an own list: a new own list -/
theorem ew_slO {xs : List SV} {q : Addr} {lo hi : Option Expr} {l u : Option Int} {R : SV → Sto → Prop} (ha : EV X a δ S (.r q)) (hq : S q = some (.lst xs)) (hl : OV X lo δ S l) (hu : OV X hi δ S u) (h : ∀ p, S p = none → R (.r p) (supd S p (.lst (cutD xs l u)))) : EW X (.Subscript a (.Slice lo hi none p2) pos) δ S R := .mk fun O σ H F Q M s k =>
  to_e (pe_slice sl_list pw_e pw_o pw_o) (ha O σ H F _ M s fun v S1 w H1 F1 e1 M1 r1 q => by
    obtain ⟨rfl, rfl⟩ := q
    refine hl O σ H1 F1 _ M1 (s.mono e1) fun H2 F2 e2 M2 => hu O σ H2 F2 _ M2 (s.mono (e1.trans e2)) fun H3 F3 e3 M3 => ?_
    obtain ⟨ho, g1, vs, rfl, rl⟩ := M3.sto _ _ hq
    cases r1
    exact ⟨_, vs, rfl, SqL.of g1, fun p hp => k (.r p) _ (.ref p) _ _ (e1.trans (e2.trans e3)) (M3.own (m := .lst (cutD xs l u)) hp ⟨_, rfl, pair_cut rl l u⟩) rfl (h p (M3.nS hp))⟩)
/-- the sum of two own lists: a new one -/
theorem ew_catO {R : SV → Sto → Prop} (h : EW X a δ S fun v S1 => EW X b δ S1 fun w S2 => ∃ p q xs ys, v = .r p ∧ w = .r q ∧ S2 p = some (.lst xs) ∧ S2 q = some (.lst ys) ∧ xs.length + ys.length ≤ sizeLine ∧ ∀ l, S2 l = none → R (.r l) (supd S2 l (.lst (xs ++ ys)))) : EW X (.BinOp a .Add b pos) δ S R :=
  ew_tOp (pe_op op_cat pw_e pw_e) (h.mono fun x S1 q => q.mono fun y S2 q O H F v w Q M rv rw' k => by
    obtain ⟨p1, q1, xs, ys, rfl, rfl, h1, h2, hz, g⟩ := q
    cases rv; cases rw'
    obtain ⟨_, g1, vs, rfl, r1⟩ := M.sto _ _ h1
    obtain ⟨_, g2, ws, rfl, r2⟩ := M.sto _ _ h2
    exact ⟨p1, q1, vs, ws, rfl, rfl, g1, g2, by rw [repL_len r1, repL_len r2]; exact hz, fun l hl => k (.r l) _ (.ref l) _ _ (Same.refl _) (M.own (m := .lst (xs ++ ys)) hl ⟨_, rfl, pair_app r1 r2⟩) rfl (g l (M.nS hl))⟩)
theorem flat_rep {K : Fg} {F : Hp} {vs : List V} {ds : List PyData} (h : DpAll K F vs ds) : ∀ n : Nat, DpAll K F (List.replicate n vs).flatten (List.replicate n ds).flatten
  | 0 => .nil
  | n + 1 => by
    rw [List.replicate_succ, List.replicate_succ, List.flatten_cons, List.flatten_cons]
    exact repL_d (by rw [List.map_append]; exact pair_app (repL_of h) (repL_of (flat_rep h n)))
/-- t * k -/
theorem ev_repT {ds : List PyData} {i : Int} (ha : EV X a δ S (.d (.tuple ds))) (hb : EV X b δ S (.d (.int i))) (h0 : ds ≠ []) (h1 : 2 ≤ i) (h2 : i ≤ 1000) (h3 : ds.length ≤ 1000) : EV X (.BinOp a .Mult b pos) δ S (.d (.tuple (List.replicate i.toNat ds).flatten)) :=
  ev_tOp (pe_op op_repT pw_e pw_e) ha hb fun O H F v w Q M rv rw' k => by
    cases rw'
    cases rv with
    | @tup p xs _ g1 g2 => exact ⟨p, i, xs, rfl, rfl, sqT_mono M.fr g1, fun z => h0 (by subst z; cases g2; rfl), h1, h2, by rw [dpAll_len g2]; exact h3, fun l hl => k.new M hl (fun F2 e2 h => .tup (SqT.of h) (flat_rep (dpAll_mono e2 g2) _)) ⟨rfl, rfl⟩⟩
theorem ev_bits {i : Int} (ha : EV X a δ S (.d (.int i))) (hbase : attributeBase a "bit_length" X.env (eval a X.env) = eval a X.env := by rfl) (hline : (apos.endLine == pos.line) = true := by rfl) : EV X (.Call (.Attribute a "bit_length" apos) [] [] pos) δ S (.d (.int (Builtin.Int.intBits i : Nat))) := .mk fun O σ H F Q M s k =>
  to_e (pe_bits pw_e hbase hline) (ha O σ H F _ M s fun v S1 u H1 F1 e1 M1 r1 q => by
    obtain ⟨rfl, rfl⟩ := q
    cases r1
    exact ⟨i, rfl, (k.at e1).dat M1 (.int _) ⟨rfl, rfl⟩⟩)
end

/-! ### own dicts -/
def valS (kvs : List (Key × SV)) (k : Key) : Option SV := (kvs.find? fun kv => decide (kv.1 = k)).map (·.2)
def putS (kvs : List (Key × SV)) (k : Key) (v : SV) : List (Key × SV) :=
  if (kvs.any fun kv => decide (kv.1 = k)) = true then kvs.map (fun kv => if kv.1 = k then (kv.1, v) else kv) else kvs ++ [(k, v)]
theorem valS_cons {p : Key × SV} {r : List (Key × SV)} {k : Key} : valS (p :: r) k = if p.1 = k then some p.2 else valS r k := by
  by_cases h : p.1 = k <;> simp [valS, List.find?_cons, h]
theorem repK_val {K : Fg} {F : Hp} {us : List (Key × V)} {kvs : List (Key × SV)} (h : RepK K F us kvs) (k : Key) : match valS kvs k with
    | some x => ∃ v, valV us k = some v ∧ RepV K F v x
    | none => valV us k = none := by
  induction h with
  | nil => exact rfl
  | @cons p q us kvs r t ih =>
    rw [valS_cons]
    by_cases e : q.1 = k
    · rw [if_pos e]
      exact ⟨p.2, valV_pos (by rw [r.1]; exact e), r.2⟩
    · rw [if_neg e]
      have e' : ¬ p.1 = k := by rw [r.1]; exact e
      rw [valV_neg e']
      exact ih
theorem repK_any {K : Fg} {F : Hp} {us : List (Key × V)} {kvs : List (Key × SV)} (h : RepK K F us kvs) (k : Key) : (us.any fun kv => decide (kv.1 = k)) = kvs.any fun kv => decide (kv.1 = k) := by
  induction h with
  | nil => rfl
  | @cons p q us kvs r t ih => rw [List.any_cons, List.any_cons, ih, r.1]
theorem repK_set {K : Fg} {F : Hp} {us : List (Key × V)} {kvs : List (Key × SV)} (h : RepK K F us kvs) (k : Key) {v : V} {x : SV} (r : RepV K F v x) : RepK K F (us.map fun kv => if kv.1 = k then (kv.1, v) else kv) (kvs.map fun kv => if kv.1 = k then (kv.1, x) else kv) := by
  induction h with
  | nil => exact .nil
  | @cons p q us kvs r' t ih =>
    refine .cons ?_ ih
    dsimp only
    by_cases e : q.1 = k
    · rw [if_pos e, if_pos (show p.1 = k by rw [r'.1]; exact e)]; exact ⟨r'.1, r⟩
    · rw [if_neg e, if_neg (show ¬ p.1 = k by rw [r'.1]; exact e)]; exact r'
theorem repK_put {K : Fg} {F : Hp} {us : List (Key × V)} {kvs : List (Key × SV)} (h : RepK K F us kvs) (k : Key) {v : V} {x : SV} (r : RepV K F v x) : RepK K F (putK us k v) (putS kvs k x) := by
  unfold putK putS
  rw [repK_any h k]
  split
  · exact repK_set h k r
  · exact pair_app h (.cons ⟨rfl, r⟩ .nil)
theorem dp_key {K : Fg} {F : Hp} {v : V} : ∀ {k : Key}, Dp K F v (keyD k) → v = kV k
  | .inl _, h => by cases h; rfl
  | .inr _, h => by cases h; rfl
section
variable {Z : Zx} {X : Cx} {N : List Str} {sc : Scope} {bs ls : List Bool} {gs : List Str} {k : Nat} [B : Bd Z X N sc bs ls gs k]
variable {a b c e : Expr} {es : List Expr} {δ : Dl} {S : Sto} {pos p apos : Pos}
include B
theorem dget_of {O H F : Hp} {S : Sto} {q : Addr} {kvs : List (Key × SV)} (M : Mem X.K O H F S) (h : S q = some (.dct kvs)) (kk : Key) : ∃ us, H q = some (.dK us) ∧ RepK X.K F us kvs := by
  obtain ⟨_, g1, us, rfl, r⟩ := M.sto _ _ h
  exact ⟨us, g1, r⟩
/-- d[k] -/
theorem ew_dget {R : SV → Sto → Prop} (h : EW X a δ S fun v S1 => EW X b δ S1 fun w S2 => ∃ q kvs kk x, v = .r q ∧ w = .d (keyD kk) ∧ S2 q = some (.dct kvs) ∧ valS kvs kk = some x ∧ R x S2) (hs : NoSl b := by exact fun _ _ => rfl) : EW X (.Subscript a b pos) δ S R := .mk fun O σ H F Q M s q =>
  to_e (pe_dget B.hu pw_e pw_e hs) (h O σ H F _ M s fun v S1 u H1 F1 e1 M1 r1 hb => hb O σ H1 F1 _ M1 (s.mono e1) fun w S2 u2 H2 F2 e2 M2 r2 hr => by
    obtain ⟨q, kvs, kk, x, rfl, rfl, h1, h2, h3⟩ := hr
    obtain ⟨_, g1, us, rfl, r⟩ := M2.sto _ _ h1
    cases r1
    rw [dp_key r2]
    have z := repK_val r kk
    rw [h2] at z
    obtain ⟨y, z1, z2⟩ := z
    exact ⟨q, y, rfl, by have w := DGet.k (k := kk) g1; rw [z1] at w; exact w, (‹KE _ _ _ _ _›.at (e1.trans e2)).rep M2 z2 h3⟩)
/-- k in d, k not in d: as a value -/
theorem cw_din {R : SV → Sto → Prop} (h : EW X a δ S fun v S1 => EW X b δ S1 fun w S2 => ∃ q kvs kk, v = .d (keyD kk) ∧ w = .r q ∧ S2 q = some (.dct kvs) ∧ R (.d (.bool (valS kvs kk).isSome)) S2) : CW X .In a b δ S R := .mk fun O σ H F Q M s q =>
  to_c (pc_din B.hu pw_e pw_e) (h O σ H F _ M s fun v S1 u H1 F1 e1 M1 r1 hb => hb O σ H1 F1 _ M1 (s.mono e1) fun w S2 u2 H2 F2 e2 M2 r2 hr => by
    obtain ⟨q, kvs, kk, rfl, rfl, h1, h3⟩ := hr
    obtain ⟨_, g1, us, rfl, r⟩ := M2.sto _ _ h1
    cases r2
    rw [dp_key r1]
    have z := repK_val r kk
    refine ⟨q, _, rfl, DGet.k (k := kk) g1, (‹KE _ _ _ _ _›.at (e1.trans e2)).dat M2 (d := .bool (valS kvs kk).isSome) ?_ h3⟩
    cases e : valS kvs kk with
    | none => rw [e] at z; rw [show valV us kk = none from z]; exact Dp.bl _
    | some x => rw [e] at z; obtain ⟨y, z1, _⟩ := z; rw [z1]; exact Dp.bl _)
theorem cw_dnotin {R : SV → Sto → Prop} (h : EW X a δ S fun v S1 => EW X b δ S1 fun w S2 => ∃ q kvs kk, v = .d (keyD kk) ∧ w = .r q ∧ S2 q = some (.dct kvs) ∧ R (.d (.bool (!(valS kvs kk).isSome))) S2) : CW X .NotIn a b δ S R := .mk fun O σ H F Q M s q =>
  to_c (pc_dnotin B.hu pw_e pw_e) (h O σ H F _ M s fun v S1 u H1 F1 e1 M1 r1 hb => hb O σ H1 F1 _ M1 (s.mono e1) fun w S2 u2 H2 F2 e2 M2 r2 hr => by
    obtain ⟨q, kvs, kk, rfl, rfl, h1, h3⟩ := hr
    obtain ⟨_, g1, us, rfl, r⟩ := M2.sto _ _ h1
    cases r2
    rw [dp_key r1]
    have z := repK_val r kk
    refine ⟨q, _, rfl, DGet.k (k := kk) g1, (‹KE _ _ _ _ _›.at (e1.trans e2)).dat M2 (d := .bool (!(valS kvs kk).isSome)) ?_ h3⟩
    cases e : valS kvs kk with
    | none => rw [e] at z; rw [show valV us kk = none from z]; exact Dp.bl _
    | some x => rw [e] at z; obtain ⟨y, z1, _⟩ := z; rw [z1]; exact Dp.bl _)
/-- d.get(k, x), the default plain -/
theorem ew_dget2 {R : SV → Sto → Prop} {y : SV} {q : Addr} {kvs : List (Key × SV)} {kk : Key} (ha : EV X a δ S (.r q)) (hb : EV X b δ S (.d (keyD kk))) (hc : EV X c δ S y) (h1 : S q = some (.dct kvs)) (h : R ((valS kvs kk).getD y) S)
    (m : M2 X a "get" apos b c pos := by exact ⟨rfl, rfl, rfl, rfl⟩) : EW X (.Call (.Attribute a "get" apos) [b, c] [] pos) δ S R := .mk fun O σ H F Q M s kq =>
  to_e (pe_dget2 B.hu pw_e pw_e pw_e m) (ha O σ H F _ M s fun v S1 u H1 F1 e1 M1 r1 z => by
    obtain ⟨rfl, rfl⟩ := z
    cases r1
    obtain ⟨us0, g0, _⟩ := dget_of (k := k) M1 h1 kk
    refine ⟨q, rfl, .inl ⟨us0, .inl g0⟩, hb O σ H1 F1 _ M1 (s.mono e1) fun w S2 u2 H2 F2 e2 M2 r2 z => ?_⟩
    obtain ⟨rfl, rfl⟩ := z
    refine hc O σ H2 F2 _ M2 (s.mono (e1.trans e2)) fun x3 S3 u3 H3 F3 e3 M3 r3 z => ?_
    obtain ⟨rfl, rfl⟩ := z
    obtain ⟨us, g1, r⟩ := dget_of (k := k) M3 h1 kk
    rw [dp_key r2]
    refine ⟨_, DGet.k (k := kk) g1, ?_⟩
    have z := repK_val r kk
    cases e : valS kvs kk with
    | none =>
      rw [e] at z h
      rw [show valV us kk = none from z]
      exact (kq.at (e1.trans (e2.trans e3))).rep M3 r3 h
    | some x =>
      rw [e] at z h
      obtain ⟨y', z1, z2⟩ := z
      rw [z1]
      exact (kq.at (e1.trans (e2.trans e3))).rep M3 z2 h)
/-- xs.append(e) -/
theorem ew_append {R : SV → Sto → Prop} (h : EW X a δ S fun v S1 => ∃ q xs0, v = .r q ∧ S1 q = some (.lst xs0) ∧ EW X b δ S1 fun w S2 => ∃ xs, S2 q = some (.lst xs) ∧ xs.length < sizeLine ∧ R (.d .none) (supd S2 q (.lst (xs ++ [w]))))
    (s1 : St1 X b := by exact rfl) (hbase : attributeBase a "append" X.env (eval a X.env) = eval a X.env := by rfl)
    (hfew : ((backTo pos (starEach [b] X.env)).all (fun x => !x.1) && (backToKw pos (keywordEach [] X.env)).all (fun x => x.1.isSome) && decide (([b] : List Expr).length + ([] : List Keyword).length + (if ([] : List Keyword).isEmpty then 0 else 1) < 30)) = true := by rfl)
    (hline : (apos.endLine == pos.line) = true := by rfl) : EW X (.Call (.Attribute a "append" apos) [b] [] pos) δ S R := .mk fun O σ H F Q M s kq =>
  to_e (pe_bm PySem.F.plainAttrs_list PySem.F.slot_list_append PySem.F.type_list_append mt_append pw_e pw_a hbase hfew hline s1 rfl) (h O σ H F _ M s fun v S1 u H1 F1 e1 M1 r1 z => by
    obtain ⟨q, xs0, rfl, h0, z⟩ := z
    obtain ⟨_, g0, vs0, rfl, rl0⟩ := M1.sto _ _ h0
    cases r1
    refine ⟨.inl ⟨rfl, vs0, SqL.of g0⟩, ?_⟩
    refine to_a (pa_cons pw_e pa_nil s1) (z O σ H1 F1 _ M1 (s.mono e1) fun w S2 u2 H2 F2 e2 M2 r2 z => ?_)
    obtain ⟨xs, h1, hz, h3⟩ := z
    obtain ⟨_, g1, vs, rfl, rl⟩ := M2.sto _ _ h1
    exact ⟨q, vs, u2, rfl, rfl, g1, by rw [repL_len rl]; exact hz, kq (.d .none) _ .non _ _ (e1.trans e2) (M2.put (m := .lst (xs ++ [w])) h1 ⟨_, rfl, Paired.snoc rl r2⟩) Dp.non h3⟩)
end

/-! ### isinstance of plain data -/
def tyN : PyData → String
  | .none => "NoneType"
  | .bool _ => "bool"
  | .int _ => "int"
  | .str _ => "str"
  | .list _ => "list"
  | .tuple _ => "tuple"
  | .dict _ => "dict"
theorem ty_of {K : Fg} {F H : Hp} (e : Same F H) {v : V} {d : PyData} (h : Dp K F v d) : TyX K H v (.type (tyN d)) := by
  cases h with
  | non => exact .base .non
  | bl b => exact .base (.bl b)
  | int i => exact .base (.int i)
  | str x => exact .base (.str x)
  | lst h _ =>
    rcases h with (h | ⟨o, h⟩) | ⟨o, _, _, h, hc, _⟩
    · exact .base (.lst (e _ _ h))
    · exact .base (.frz (e _ _ h))
    · exact .kList h hc
  | tup h _ =>
    rcases h with (h | ⟨o, h⟩) | ⟨o, _, _, h, hc, _⟩
    · exact .base (.tup (e _ _ h))
    · exact .fTuple (e _ _ h)
    · exact .kTuple h hc
section
variable {Z : Zx} {X : Cx} {N : List Str} {sc : Scope} {bs ls : List Bool} {gs : List Str} {k : Nat} [B : Bd Z X N sc bs ls gs k]
variable {a e : Expr} {δ : Dl} {S : Sto} {pos p p2 : Pos}
include B
theorem ev_isi {T : Str} {t : String} {d : PyData} {r : Bool} [g : GAt gs "isinstance"] [f : Free Z "isinstance"] [g2 : GAt gs T] [f2 : Free Z T] (hT : bootBuiltins T = some (.type t)) (ha : EV X a δ S (.d d)) (h : kitB (tyN d) t = some r)
    (s2 : St2 X a (.Name T p2) := by exact rfl) (s1 : St1 X (.Name T p2) := by exact rfl) : EV X (.Call (.Name "isinstance" p) [a, .Name T p2] [] pos) δ S (.d (.bool r)) := .mk fun O σ H F Q M s kq => by
  obtain ⟨q1, q2, q3⟩ := B.gl "isinstance" g.h
  obtain ⟨q4, q5, q6⟩ := B.gl T g2.h
  refine to_e (pe_callB call_isi q1 (by rw [B.mg]; exact f.h) (by decide +kernel) (pa_cons pw_e (pa_cons (pe_bltn (v := .ty t) q4 (by rw [B.mg]; exact f2.h) hT rfl q6 q5) pa_nil s1) s2) q3 q2 s2 (by rw [s1]; rfl)) ?_
  refine ha O σ H F _ M s fun v S1 u H1 F1 e1 M1 r1 z => ?_
  obtain ⟨rfl, rfl⟩ := z
  exact ⟨u, .ty t, _, _, r, rfl, .ty t, ty_of M1.fr r1, kit_ty h, (kq.at e1).dat M1 (.bl r) ⟨rfl, rfl⟩⟩
/-- tuple(range(n)) -/
theorem ev_tupRg {n : Int} [g : GAt gs "tuple"] [f : Free Z "tuple"] [g2 : GAt gs "range"] [f2 : Free Z "range"] (ha : EV X a δ S (.d (.int n))) (h0 : 0 ≤ n) (h1 : n ≤ 1000)
    (s1 : St1 X (.Call (.Name "range" p2) [a] [] p) := by exact rfl) (s2 : St1 X a := by exact rfl) {p' : Pos} : EV X (.Call (.Name "tuple" p') [.Call (.Name "range" p2) [a] [] p] [] pos) δ S (.d (.tuple ((List.range n.toNat).map fun (i : Nat) => PyData.int i))) := .mk fun O σ H F Q M s kq => by
  obtain ⟨q1, q2, q3⟩ := B.gl "tuple" g.h
  obtain ⟨q4, q5, q6⟩ := B.gl "range" g2.h
  refine to_e (pe_tupRg B.calm q1 (by rw [B.mg]; exact f.h) (prg_1 q4 (by rw [B.mg]; exact f2.h) pw_e s2) s1) ?_
  refine ha O σ H F _ M s fun v S1 u H1 F1 e1 M1 r1 z => ?_
  obtain ⟨rfl, rfl⟩ := z
  cases r1
  refine ⟨n, rfl, ⟨by omega, by omega, by omega, by omega, by omega⟩, fun l hl => (kq.at e1).new M1 hl (fun F2 e2 h => .tup (SqT.of h) ?_) ⟨rfl, rfl⟩⟩
  have e : rgV 0 n = ((List.range n.toNat).map fun (i : Nat) => (i : Int)).map V.int := by
    unfold rgV
    rw [List.map_map, Int.sub_zero]
    exact List.map_congr_left fun i _ => by show V.int (0 + _) = V.int _; rw [Int.zero_add]
  have e' : ((List.range n.toNat).map fun (i : Nat) => PyData.int i) = ((List.range n.toNat).map fun (i : Nat) => (i : Int)).map PyData.int := by rw [List.map_map]; rfl
  rw [e, e']
  exact dp_ints _
omit B in
theorem pair_rev {α β : Type} {F : α → β → Prop} {xs : List α} {ys : List β} (h : Paired F xs ys) : Paired F xs.reverse ys.reverse := by
  induction h with
  | nil => exact .nil
  | cons r t ih => rw [List.reverse_cons, List.reverse_cons]; exact pair_app ih (.cons r .nil)
/-- tuple(reversed(xs)), xs an own list -/
theorem ew_tupRev {R : SV → Sto → Prop} [g : GAt gs "tuple"] [f : Free Z "tuple"] [g2 : GAt gs "reversed"] [f2 : Free Z "reversed"] (ha : EW X a δ S fun v S1 => ∃ (q : Addr) (ds : List PyData), v = .r q ∧ S1 q = some (.lst (ds.map SV.d)) ∧ R (.d (.tuple ds.reverse)) S1)
    (s1 : St1 X (.Call (.Name "reversed" p2) [a] [] p) := by exact rfl) (s2 : St1 X a := by exact rfl) {p' : Pos} : EW X (.Call (.Name "tuple" p') [.Call (.Name "reversed" p2) [a] [] p] [] pos) δ S R := .mk fun O σ H F Q M s kq => by
  obtain ⟨q1, q2, q3⟩ := B.gl "tuple" g.h
  obtain ⟨q4, q5, q6⟩ := B.gl "reversed" g2.h
  refine to_e (RT.pe_tupRev B.calm q1 (by rw [B.mg]; exact f.h) q4 (by rw [B.mg]; exact f2.h) pw_e s2 s1) ?_
  refine ha O σ H F _ M s fun v S1 u H1 F1 e1 M1 r1 z => ?_
  obtain ⟨q, ds, rfl, h1, h2⟩ := z
  obtain ⟨_, g1, vs, rfl, rl⟩ := M1.sto _ _ h1
  cases r1
  refine ⟨q, vs, rfl, SqL.of g1, fun l hl => (kq.at e1).new M1 hl (fun F2 e2 h => .tup (SqT.of h) ?_) h2⟩
  exact dpAll_mono e2 (repL_d (by rw [List.map_reverse]; exact pair_rev rl))
end
end K23
/-! DL, part 6: statements, loops, comprehensions, a def by its body -/
namespace K23
open PySem PySem.Spec PyProof.Rows L2

section
variable {Z : Zx} {X : Cx} {N : List Str} {sc : Scope} {bs ls : List Bool} {gs : List Str} {k : Nat} [B : Bd Z X N sc bs ls gs k]
variable {a b c e tg iter : Expr} {es : List Expr} {st : Stmt} {sts ss1 ss2 : List Stmt} {δ : Dl} {S : Sto} {E : DE} {pos p px : Pos}
/-! ### blocks -/
theorem sws_nil (h : E.nx δ S) : SWs X [] δ S E := .mk fun O σ H F D M s k => to_ss pss_nil (k.nx _ _ _ _ _ (Same.refl _) M s h)
theorem sws_cons (h : SW X st δ S { E with nx := fun δ' S' => SWs X sts δ' S' E }) : SWs X (st :: sts) δ S E := .mk fun O σ H F D M s k =>
  to_ss (pss_cons pw_s pw_ss) (h O σ H F _ M s ⟨fun δ' S' σ' H' F' e M' s' q => q O σ' H' F' D M' s' (k.at e), k.rt, k.bk, k.ct⟩)
theorem sws_one (h : SW X st δ S E) : SWs X [st] δ S E := .mk fun O σ H F D M s k => to_ss (pss_one pw_s) (h O σ H F D M s k)
theorem sw_pass (h : E.nx δ S) : SW X (.Pass pos) δ S E := .mk fun O σ H F D M s k => to_s ps_pass (k.nx _ _ _ _ _ (Same.refl _) M s h)
theorem SW.mono {E' : DE} (h : SW X st δ S E) (h1 : ∀ δ S, E.nx δ S → E'.nx δ S) (h2 : ∀ x S, E.rt x S → E'.rt x S) (h3 : ∀ δ S, E.bk δ S → E'.bk δ S) (h4 : ∀ δ S, E.ct δ S → E'.ct δ S) : SW X st δ S E' := .mk fun O σ H F D M s k =>
  h O σ H F D M s ⟨fun δ' S' σ' H' F' e M' s' q => k.nx δ' S' σ' H' F' e M' s' (h1 _ _ q), k.rt.mono (Same.refl _) h2, fun δ' S' σ' H' F' e M' s' q => k.bk δ' S' σ' H' F' e M' s' (h3 _ _ q), fun δ' S' σ' H' F' e M' s' q => k.ct δ' S' σ' H' F' e M' s' (h4 _ _ q)⟩
/-- fewer own objects are remembered -/
theorem sws_sub {S' : Sto} (hs : SLe S' S) (h : SWs X sts δ S' E) : SWs X sts δ S E := .mk fun O σ H F D M s k => h O σ H F D (M.sub hs) s k
/-- an own list of the slot i becomes plain data -/
theorem sws_frz {S' : Sto} {i : Nat} {q : Addr} {ds : List PyData} (hd : δ[i]? = some (some (.r q))) (hq : S q = some (.lst (ds.map SV.d))) (hs : SLe S' S) (hn : S' q = none) (h : SWs X sts (δ.set i (some (.d (.list ds)))) S' E) : SWs X sts δ S E := .mk fun O σ H F D M s k => by
  obtain ⟨ho, g1, ⟨vs, rfl, rl⟩, nf, M2⟩ := M.freeze hq hs hn
  obtain ⟨v, hv, rv⟩ := s.2 i _ hd
  have rv : v = .ref q := rv
  subst rv
  refine h O σ H _ D M2 ⟨by rw [List.length_set]; exact s.1, fun j y hy => ?_⟩ (k.at (same_upd nf))
  by_cases hj : i = j
  · subst hj
    have hi : i < δ.length := (List.getElem?_eq_some_iff.mp hd).1
    rw [List.getElem?_set_self hi] at hy
    cases hy
    exact ⟨_, hv, show Dp X.K (upd F q (.lst vs)) (.ref q) (.list ds) from .lst (SqL.of upd_same) (dpAll_mono (same_upd nf) (repL_d rl))⟩
  · rw [List.getElem?_set_ne hj] at hy
    obtain ⟨u, h1, h2⟩ := s.2 j y hy
    exact ⟨u, h1, repV_mono (same_upd nf) h2⟩
/-! ### single statements -/
include B
theorem ew_tg {x : Str} {i : Nat} {v : SV} {Nx : Dl → Sto → Prop} [n : NAt N ls x i] (h : Nx (δ.set i (some v)) S) : GW X (.Name x px) v δ S Nx := .mk fun O σ H F u Q M s r q => by
  obtain ⟨h1, h2⟩ := n.h
  obtain ⟨l1, l2⟩ := B.sto i x h1 h2
  exact to_g (pg_name (i := i) (by rw [B.Nn]; exact B.nd) (by rw [B.Nn]; exact h1) l1 l2) (q _ _ _ _ _ (Same.refl _) M (s.set i r) h)
theorem sw_set {x : Str} {i : Nat} [n : NAt N ls x i] (h : EW X e δ S fun v S' => E.nx (δ.set i (some v)) S') (hs : swapsWith e (some (.Name x px)) pos.line X.env = pure false := by rfl) : SW X (.Assign [.Name x px] e pos) δ S E := .mk fun O σ H F D M s q => by
  obtain ⟨h1, h2⟩ := n.h
  obtain ⟨l1, l2⟩ := B.sto i x h1 h2
  exact to_s (ps_set (i := i) (by rw [B.Nn]; exact B.nd) (by rw [B.Nn]; exact h1) l1 pw_e hs l2) (h O σ H F _ M s fun v S1 u H1 F1 e1 M1 r1 z => q.nx _ _ _ _ _ e1 M1 ((s.mono e1).set i r1) z)
/-- name += e, ints -/
theorem sw_augI {x : Str} {i : Nat} {m n' : Int} [n : NAt N ls x i] (hv : δ[i]? = some (some (.d (.int m)))) (ha : EV X e δ S (.d (.int n'))) (h : E.nx (δ.set i (some (.d (.int (m + n'))))) S) : SW X (.AugAssign (.Name x px) .Add e pos) δ S E := .mk fun O σ H F D M s q => by
  obtain ⟨h1, h2⟩ := n.h
  obtain ⟨l1, l2⟩ := B.sto i x h1 h2
  obtain ⟨v, g1, g2⟩ := s.2 i _ hv
  cases g2
  refine to_s (ps_aug (i := i) (by rw [B.Nn]; exact B.nd) (by rw [B.Nn]; exact h1) l1 pw_e ip_add l2) ⟨_, g1, ha O σ H F _ M s fun v S1 u H1 F1 e1 M1 r1 z => ?_⟩
  obtain ⟨rfl, rfl⟩ := z
  cases r1
  exact ⟨m, n', rfl, rfl, q.nx _ _ _ _ _ e1 M1 ((s.mono e1).set i (x := .d (.int (m + n'))) (show Dp X.K F1 (.int (m + n')) (.int (m + n')) from .int _)) h⟩
omit B in
theorem sw_ret (h : EW X e δ S E.rt) : SW X (.Return (some e) pos) δ S E := .mk fun O σ H F D M s q => to_s (ps_ret pw_e) (h O σ H F _ M s q.rt)
omit B in
/-- return, forgetting what is one's own -/
theorem sw_retV {v : SV} {S0 : Sto} (h : EV X e δ S v) (hs : SLe S0 S) (hr : E.rt v S0) : SW X (.Return (some e) pos) δ S E := .mk fun O σ H F D M s q => to_s (ps_ret pw_e) (h O σ H F _ M s fun w S1 u H1 F1 e1 M1 r1 z => by
  obtain ⟨rfl, rfl⟩ := z
  exact q.rt _ _ _ _ _ e1 (M1.sub hs) r1 hr)
omit B in
theorem sw_expr (h : EW X e δ S fun _ S' => E.nx δ S') (hs : swapsWith e none pos.line X.env = pure false := by rfl) : SW X (.Expr e pos) δ S E := .mk fun O σ H F D M s q =>
  to_s (ps_expr pw_e hs) (h O σ H F _ M s fun v S1 u H1 F1 e1 M1 r1 z => q.nx _ _ _ _ _ e1 M1 (s.mono e1) z)
omit B in
theorem sw_if {x : Bool} (h : TV X c δ S x) (h1 : x = true → SWs X ss1 δ S E) (h2 : x = false → SWs X ss2 δ S E) : SW X (.If c ss1 ss2 pos) δ S E := .mk fun O σ H F D M s q =>
  to_s (ps_if pw_t pw_ss pw_ss) (h O σ H F _ M s fun d S' H' F' e1 M1 z => by
    obtain ⟨rfl, rfl⟩ := z
    cases d with
    | true => exact iteT (h1 rfl O σ H' F' D M1 (s.mono e1) (q.at e1))
    | false => exact iteF (h2 rfl O σ H' F' D M1 (s.mono e1) (q.at e1)))
omit B in
theorem sw_ifW (h : TW X c δ S fun x S' => if x = true then SWs X ss1 δ S' E else SWs X ss2 δ S' E) : SW X (.If c ss1 ss2 pos) δ S E := .mk fun O σ H F D M s q =>
  to_s (ps_if pw_t pw_ss pw_ss) (h O σ H F _ M s fun d S' H' F' e1 M1 z => by
    cases d with
    | true =>
      rw [if_pos rfl] at z
      exact iteT (z O σ H' F' D M1 (s.mono e1) (q.at e1))
    | false =>
      rw [if_neg Bool.false_ne_true] at z
      exact iteF (z O σ H' F' D M1 (s.mono e1) (q.at e1)))
omit B in
theorem sw_asg {tg : Expr} (h : EW X e δ S fun v S' => GW X tg v δ S' E.nx) (hs : swapsWithSole [tg] e pos.line X.env = pure false := by rfl) (hw : swappedStores [tg] e X.env = pure none := by rfl) (h1 : (assignEach [tg] X.env).map (·.2) = [assign tg X.env] := by rfl) : SW X (.Assign [tg] e pos) δ S E := .mk fun O σ H F D M s q =>
  to_s (ps_asg pw_e pw_g hs hw h1) (h O σ H F _ M s fun v S1 u H1 F1 e1 M1 r1 z => z O σ H1 F1 u _ M1 (s.mono e1) r1 (q.nx.at e1))
/-- targets a, b, .. of a tuple -/
def GWs (X : Cx) (ts : List Expr) (xs : List PyData) (δ : Dl) (S : Sto) (Nx : Dl → Sto → Prop) : Prop := ∀ O σ H F vs Q, Mem X.K O H F S → Slots X.K F σ δ → DpAll X.K F vs xs → KN X.K O F Nx Q → ∃ t, PGs X ts t ∧ t vs σ H Q
omit B in
theorem gws_nil {Nx : Dl → Sto → Prop} (h : Nx δ S) : GWs X [] [] δ S Nx := fun O σ H F vs Q M s r q => by
  cases r
  exact ⟨_, pgs_nil, rfl, q _ _ _ _ _ (Same.refl _) M s h⟩
theorem gws_cons {x : Str} {i : Nat} {d : PyData} {ds : List PyData} {Nx : Dl → Sto → Prop} [n : NAt N ls x i] (h : GWs X es ds (δ.set i (some (.d d))) S Nx) (hs : (assignEach (.Name x px :: es) X.env).map (·.2) = assign (.Name x px) X.env :: (assignEach es X.env).map (·.2) := by rfl) : GWs X (.Name x px :: es) (d :: ds) δ S Nx := fun O σ H F vs Q M s r q => by
  obtain ⟨h1, h2⟩ := n.h
  obtain ⟨l1, l2⟩ := B.sto i x h1 h2
  cases r with
  | @cons v vs _ _ r1 r2 =>
    obtain ⟨t, t1, t2⟩ := h O (σ.set i (some v)) H F vs Q M (s.set i (x := .d d) r1) r2 q
    exact ⟨_, pgs_cons (pg_name (i := i) (by rw [B.Nn]; exact B.nd) (by rw [B.Nn]; exact h1) l1 l2) t1 hs, v, vs, rfl, t2⟩
theorem gw_tup {m : Nat} {ds : List PyData} {Nx : Dl → Sto → Prop} (h : GWs X es ds δ S Nx) (hl : ds.length = (assignEach es X.env).length := by rfl) (hst : (assignEach es X.env).findIdx? (·.1) = none := by rfl) : GW X (.Tuple es m px) (.d (.tuple ds)) δ S Nx := .mk fun O σ H F v Q M s r q => by
  cases r with
  | @tup a xs _ h1 h2 =>
    obtain ⟨t, t1, t2⟩ := h O σ H F xs Q M s h2 q
    exact to_g (pg_tup B.calm t1 rfl hst) ⟨a, xs, rfl, sqT_mono M.fr h1, by rw [dpAll_len h2]; exact hl, t2⟩
/-- d[k] = v of an own dict -/
theorem sw_dput (h : EW X e δ S fun v S1 => EW X a δ S1 fun w S2 => EW X b δ S2 fun y S3 => ∃ q kvs kk, w = .r q ∧ y = .d (keyD kk) ∧ S3 q = some (.dct kvs) ∧ kvs.length < sizeLine ∧ E.nx δ (supd S3 q (.dct (putS kvs kk v)))) (hs : swapsWith e (some (.Subscript a b px)) pos.line X.env = pure false := by rfl) : SW X (.Assign [.Subscript a b px] e pos) δ S E := .mk fun O σ H F D M s q =>
  to_s (ps_dput B.hu pw_e pw_e pw_e hs) (h O σ H F _ M s fun v S1 u H1 F1 e1 M1 r1 z => z O σ H1 F1 _ M1 (s.mono e1) fun w S2 u2 H2 F2 e2 M2 r2 z => z O σ H2 F2 _ M2 (s.mono (e1.trans e2)) fun y S3 u3 H3 F3 e3 M3 r3 z => by
    obtain ⟨q', kvs, kk, rfl, rfl, g1, g2, g3⟩ := z
    obtain ⟨_, g4, us, rfl, r⟩ := M3.sto _ _ g1
    cases r2
    rw [dp_key r3]
    have rv := repV_mono (e2.trans e3) r1
    exact ⟨q', _, rfl, DPut.k (k := kk) g4 (by rw [Paired.length r]; exact g2), q.nx _ _ _ _ _ (e1.trans (e2.trans e3)) (M3.put (m := .dct (putS kvs kk v)) g1 ⟨_, rfl, repK_put r kk rv⟩) (s.mono (e1.trans (e2.trans e3))) g3⟩)
omit B in
theorem pair_set {α β : Type} {F : α → β → Prop} {x : α} {y : β} (r : F x y) : ∀ (i : Nat) {xs : List α} {ys : List β}, Paired F xs ys → Paired F (xs.set i x) (ys.set i y)
  | _, _, _, .nil => .nil
  | 0, _, _, .cons _ t => .cons r t
  | i + 1, _, _, .cons q t => .cons q (pair_set r i t)
omit B in
theorem gw_setL {v : SV} {Nx : Dl → Sto → Prop} (h : EW X a δ S fun w S2 => EW X b δ S2 fun y S3 => ∃ q xs j i, w = .r q ∧ y = .d (.int i) ∧ S3 q = some (.lst xs) ∧ ixN xs.length i = some j ∧ Nx δ (supd S3 q (.lst (xs.set j v))))
    (ha : ∀ v, assign (.Subscript a b px) X.env v = (do
      let ov ← holding [v] (eval a X.env)
      let iv ← holding [v, ov] (eval b X.env)
      standAt px
      holding [v, ov, iv] (setItem ov iv v)
      release [v, ov, iv] []) := by intro _; rfl) : GW X (.Subscript a b px) v δ S Nx := .mk fun O σ H F u Q M s r q =>
  to_g (pg_sub pw_e pw_e set_list ha) (h O σ H F _ M s fun w S2 u2 H2 F2 e2 M2 r2 z => z O σ H2 F2 _ M2 (s.mono e2) fun y S3 u3 H3 F3 e3 M3 r3 z => by
    obtain ⟨q', xs, j, i, rfl, rfl, g1, g2, g3⟩ := z
    obtain ⟨_, g4, us, rfl, rl⟩ := M3.sto _ _ g1
    cases r2; cases r3
    exact ⟨q', us, i, j, rfl, rfl, g4, by rw [repL_len rl]; exact g2, q _ _ _ _ _ (e2.trans e3) (M3.put (m := .lst (xs.set j v)) g1 ⟨_, rfl, pair_set (repV_mono (e2.trans e3) r) j rl⟩) (s.mono (e2.trans e3)) g3⟩)
/-! ### while -/
theorem sw_while {body : List Stmt} (W : Nat → Dl → Sto → Prop) (m0 : Nat) (h0 : W m0 δ S) (hs : ∀ m δ' S', W m δ' S' → ∃ x, TV X c δ' S' x ∧ (x = true → SWs X body δ' S' { E with nx := fun δ2 S2 => ∃ m', m' < m ∧ W m' δ2 S2, ct := fun δ2 S2 => ∃ m', m' < m ∧ W m' δ2 S2, bk := E.nx }) ∧ (x = false → E.nx δ' S')) : SW X (.While c body [] pos) δ S E := .mk fun O σ H F D M s q =>
  to_s (ps_while B.nv pw_t pw_ss) ⟨fun m σ' H' => ∃ δ' S' F', Same F F' ∧ Mem X.K O H' F' S' ∧ Slots X.K F' σ' δ' ∧ W m δ' S', ⟨m0, δ, S, F, Same.refl _, M, s, h0⟩, fun m σ1 H1 ⟨δ1, S1, F1, e1, M1, s1, w1⟩ => by
    obtain ⟨x, t1, t2, t3⟩ := hs m δ1 S1 w1
    refine t1 O σ1 H1 F1 _ M1 s1 fun y S2 H2 F2 e2 M2 z => ?_
    obtain ⟨rfl, rfl⟩ := z
    have s2 := s1.mono e2
    cases y with
    | false => exact iteF (q.nx _ _ _ _ _ (e1.trans e2) M2 s2 (t3 rfl))
    | true =>
      refine iteT ⟨fun σ' H' => ∃ m', m' < m ∧ ∃ δ' S' F', Same F F' ∧ Mem X.K O H' F' S' ∧ Slots X.K F' σ' δ' ∧ W m' δ' S', fun _ _ z => z, t2 rfl O σ1 H2 F2 _ M2 s2 ⟨fun δ3 S3 σ3 H3 F3 e3 M3 s3 ⟨m', hm, w3⟩ => ?_, q.rt.at (e1.trans e2), q.nx.at (e1.trans e2), fun δ3 S3 σ3 H3 F3 e3 M3 s3 ⟨m', hm, w3⟩ => ?_⟩⟩
      · exact ⟨m', hm, δ3, S3, F3, e1.trans (e2.trans e3), M3, s3, w3⟩
      · exact ⟨m', hm, δ3, S3, F3, e1.trans (e2.trans e3), M3, s3, w3⟩⟩
/-! ### what is walked -/
def DIt (K : Fg) (J : It) (xs : List PyData) (F0 : Hp) (G : Sto → Prop) : Prop := ∀ (O : Hp) (i : Nat) (H F : Hp) (S : Sto), Mem K O H F S → Same F0 F → G S →
  (i < xs.length → J.go i H) ∧ (i = xs.length → J.stop i H) ∧ ∀ v H', i < xs.length → J.yld i H v H' → ∃ F' d, xs[i]? = some d ∧ Same F F' ∧ Mem K O H' F' S ∧ Dp K F' v d
def IW (X : Cx) (tg iter : Expr) (δ : Dl) (S : Sto) (xs : List PyData) (G : Sto → Prop) : Prop := ∀ O σ H F (R : It → Hp → Prop), Mem X.K O H F S → Slots X.K F σ δ → (∀ J H' F', Same F F' → Mem X.K O H' F' S → DIt X.K J xs F' G → R J H') → wpI X tg iter σ H R
abbrev GT : Sto → Prop := fun _ => True
omit B in
theorem iw_list {xs : List PyData} (h : EV X e δ S (.d (.list xs))) : IW X tg e δ S xs GT := fun O σ H F R M s k =>
  to_i (pi_list pw_e) (h O σ H F _ M s fun v S1 u H1 F1 e1 M1 r1 z => by
    obtain ⟨rfl, rfl⟩ := z
    cases r1 with
    | @lst q vs _ h1 h2 =>
      refine ⟨q, rfl, ⟨vs, M1.fr.seq h1⟩, k _ H1 F1 e1 M1 fun O2 i H2 F2 S2 M2 e2 _ => ?_⟩
      have g := M2.fr.seq (e2.seq h1)
      have l := dpAll_len h2
      refine ⟨fun hi => ⟨vs, vs[i]'(by omega), g, by simp [show i < vs.length by omega]⟩, fun hi => ⟨vs, g, by omega⟩, fun v H' hi y => ?_⟩
      obtain ⟨rfl, y⟩ := y
      obtain ⟨d, d1, d2⟩ := dpAll_get' h2 (y vs g)
      exact ⟨F2, d, d1, Same.refl _, M2, dp_mono e2 d2⟩)
omit B in
theorem iw_tup {xs : List PyData} (h : EV X e δ S (.d (.tuple xs))) : IW X tg e δ S xs GT := fun O σ H F R M s k =>
  to_i (pi_tup pw_e) (h O σ H F _ M s fun v S1 u H1 F1 e1 M1 r1 z => by
    obtain ⟨rfl, rfl⟩ := z
    cases r1 with
    | @tup q vs _ h1 h2 =>
      refine ⟨q, rfl, ⟨vs, sqT_mono M1.fr h1⟩, k _ H1 F1 e1 M1 fun O2 i H2 F2 S2 M2 e2 _ => ?_⟩
      have g := sqT_mono M2.fr (sqT_mono e2 h1)
      have l := dpAll_len h2
      refine ⟨fun hi => ⟨vs, vs[i]'(by omega), g, by simp [show i < vs.length by omega]⟩, fun hi => ⟨vs, g, by omega⟩, fun v H' hi y => ?_⟩
      obtain ⟨rfl, y⟩ := y
      obtain ⟨d, d1, d2⟩ := dpAll_get' h2 (y vs g)
      exact ⟨F2, d, d1, Same.refl _, M2, dp_mono e2 d2⟩)
omit B in
/-- an own list that the loop leaves as it is -/
theorem iw_own {q : Addr} {xs : List PyData} (h : EV X e δ S (.r q)) (hq : S q = some (.lst (xs.map SV.d))) : IW X tg e δ S xs fun S' => S' q = some (.lst (xs.map SV.d)) := fun O σ H F R M s k =>
  to_i (pi_list pw_e) (h O σ H F _ M s fun v S1 u H1 F1 e1 M1 r1 z => by
    obtain ⟨rfl, rfl⟩ := z
    cases r1
    obtain ⟨_, g0, vs0, rfl, rl0⟩ := M1.sto _ _ hq
    refine ⟨q, rfl, ⟨vs0, SqL.of g0⟩, k _ H1 F1 e1 M1 fun O2 i H2 F2 S2 M2 e2 hG => ?_⟩
    obtain ⟨_, g1, vs, rfl, rl⟩ := M2.sto _ _ hG
    have g := SqL.of (K := X.K) g1
    have h2 := repL_d rl
    have l := dpAll_len h2
    refine ⟨fun hi => ⟨vs, vs[i]'(by omega), g, by simp [show i < vs.length by omega]⟩, fun hi => ⟨vs, g, by omega⟩, fun v H' hi y => ?_⟩
    obtain ⟨rfl, y⟩ := y
    obtain ⟨d, d1, d2⟩ := dpAll_get' h2 (y vs g)
    exact ⟨F2, d, d1, Same.refl _, M2, d2⟩)
/-- the ints lo, lo + 1, .. (n of them) -/
def intsFrom (lo : Int) (n : Nat) : List PyData := (List.range n).map fun (i : Nat) => PyData.int (lo + i)
omit B in
theorem intsFrom_len {lo : Int} {n : Nat} : (intsFrom lo n).length = n := by unfold intsFrom; rw [List.length_map, List.length_range]
omit B in
theorem dit_range {K : Fg} {lo : Int} {n : Nat} {F : Hp} : DIt K (Itr lo n) (intsFrom lo n) F GT := fun O i H F1 S M e _ => by
  rw [intsFrom_len]
  refine ⟨fun hi => hi, fun hi => Nat.le_of_eq hi.symm, fun v H' hi y => ?_⟩
  obtain ⟨rfl, rfl⟩ := y
  exact ⟨F1, .int (lo + i), by unfold intsFrom; rw [List.getElem?_map, List.getElem?_range hi]; rfl, Same.refl _, M, .int _⟩
theorem iw_range1 {n : Int} [g : GAt gs "range"] [f : Free Z "range"] (h : EV X e δ S (.d (.int n))) (h1 : -(2 ^ 62) ≤ n) (h2 : n < 2 ^ 62) (s1 : St1 X e := by exact rfl) : IW X tg (.Call (.Name "range" p) [e] [] pos) δ S (intsFrom 0 n.toNat) GT := fun O σ H F R M s k =>
  to_i (pi_range1 (B.gl _ g.h).1 (by rw [B.mg]; exact f.h) (pa_cons pw_e pa_nil s1) s1) (h O σ H F _ M s fun v S1 u H1 F1 e1 M1 r1 z => by
    obtain ⟨rfl, rfl⟩ := z
    cases r1
    exact ⟨n, rfl, h1, h2, k _ H1 F1 e1 M1 dit_range⟩)
theorem iw_range2 {m n : Int} [g : GAt gs "range"] [f : Free Z "range"] (ha : EV X a δ S (.d (.int m))) (h : EV X b δ S (.d (.int n))) (h1 : -(2 ^ 62) ≤ m ∧ m < 2 ^ 62 ∧ -(2 ^ 62) ≤ n ∧ n < 2 ^ 62) (s2 : St2 X a b := by exact rfl) (s1 : St1 X b := by exact rfl) : IW X tg (.Call (.Name "range" p) [a, b] [] pos) δ S (intsFrom m (n - m).toNat) GT := fun O σ H F R M s k =>
  to_i (pi_range2 (B.gl _ g.h).1 (by rw [B.mg]; exact f.h) (pa_cons pw_e (pa_cons pw_e pa_nil s1) s2) (by rw [s2, s1]; rfl) s1) (ha O σ H F _ M s fun v S1 u H1 F1 e1 M1 r1 z => by
    obtain ⟨rfl, rfl⟩ := z
    refine h O σ H1 F1 _ M1 (s.mono e1) fun w S2 u2 H2 F2 e2 M2 r2 z => ?_
    obtain ⟨rfl, rfl⟩ := z
    cases r1; cases r2
    exact ⟨m, n, rfl, h1, k _ H2 F2 (e1.trans e2) M2 dit_range⟩)
def pairD : List PyData → List PyData → List PyData
  | x :: xs, y :: ys => .tuple [x, y] :: pairD xs ys
  | _, _ => []
omit B in
theorem pairD_len : ∀ xs ys : List PyData, (pairD xs ys).length = min xs.length ys.length
  | [], _ => by simp [pairD]
  | _ :: _, [] => by simp [pairD]
  | _ :: xs, _ :: ys => by show (pairD xs ys).length + 1 = min (xs.length + 1) (ys.length + 1); rw [pairD_len xs ys]; omega
omit B in
theorem pairD_get : ∀ {xs ys : List PyData} {i : Nat} {x y : PyData}, xs[i]? = some x → ys[i]? = some y → (pairD xs ys)[i]? = some (.tuple [x, y])
  | [], _, i, _, _, h, _ => by simp at h
  | _ :: _, [], i, _, _, _, h => by simp at h
  | _ :: _, _ :: _, 0, _, _, h, h' => by simp at h h'; subst h h'; rfl
  | _ :: xs, _ :: ys, i + 1, _, _, h, h' => by
    have z := pairD_get (xs := xs) (ys := ys) (i := i) (by simpa using h) (by simpa using h')
    show (pairD xs ys)[i]? = _
    exact z
theorem iw_zip {xs ys : List PyData} {elts : List Expr} {kk : Nat} {tpos : Pos} [g : GAt gs "zip"] [f : Free Z "zip"] (ha : EV X a δ S (.d (.tuple xs))) (hb : EV X b δ S (.d (.tuple ys))) (s2 : St2 X a b := by exact rfl) (s1 : St1 X b := by exact rfl) :
    IW X (.Tuple elts kk tpos) (.Call (.Name "zip" p) [a, b] [] pos) δ S (pairD xs ys) GT := fun O σ H F R M s k =>
  to_i (RZ.pi_zipA (B.gl _ g.h).1 (by rw [B.mg]; exact f.h) (pa_cons pw_e (pa_cons pw_e pa_nil s1) s2) s2 (by rw [s1]; rfl)) (ha O σ H F _ M s fun v S1 u H1 F1 e1 M1 r1 z => by
    obtain ⟨rfl, rfl⟩ := z
    refine hb O σ H1 F1 _ M1 (s.mono e1) fun w S2 u2 H2 F2 e2 M2 r2 z => ?_
    obtain ⟨rfl, rfl⟩ := z
    cases r1 with
    | @tup q1 vs _ h1 h2 =>
      cases r2 with
      | @tup q2 ws _ g1 g2 =>
        have h1 := sqT_mono e2 h1
        have h2 := dpAll_mono e2 h2
        refine ⟨q1, q2, vs, ws, rfl, .inr ⟨sqT_mono M2.fr h1, sqT_mono M2.fr g1, k _ H2 F2 (e1.trans e2) M2 fun O3 i H3 F3 S3 M3 e3 _ => ?_⟩⟩
        have a1 := sqT_mono M3.fr (sqT_mono e3 h1)
        have a2 := sqT_mono M3.fr (sqT_mono e3 g1)
        have l1 := dpAll_len h2
        have l2 := dpAll_len g2
        rw [pairD_len]
        refine ⟨fun hi => ⟨vs, ws, vs[i]'(by omega), ws[i]'(by omega), a1, a2, by simp [show i < vs.length by omega], by simp [show i < ws.length by omega]⟩, fun hi => ⟨vs, ws, a1, a2, by omega⟩, fun v H' hi y => ?_⟩
        obtain ⟨T, x, y, rfl, hT, rfl, z1, z2⟩ := y
        obtain ⟨d1, b1, b2⟩ := dpAll_get' h2 (z1 vs a1)
        obtain ⟨d2, c1, c2⟩ := dpAll_get' g2 (z2 ws a2)
        have nf := M3.nF hT
        exact ⟨_, .tuple [d1, d2], pairD_get b1 c1, same_upd nf, M3.data _ hT, .tup (SqT.of upd_same) (.cons (dp_mono (e3.trans (same_upd nf)) b2) (.cons (dp_mono (e3.trans (same_upd nf)) c2) .nil))⟩)
omit B in
theorem drop_cons {α : Type} {xs : List α} {i : Nat} {x : α} (h : xs[i]? = some x) : xs.drop i = x :: xs.drop (i + 1) := by
  obtain ⟨h1, h2⟩ := List.getElem?_eq_some_iff.mp h
  rw [List.drop_eq_getElem_cons h1, h2]
/-! ### for: W tells of what is left to be walked -/
theorem sw_for {body : List Stmt} {xs : List PyData} {G : Sto → Prop} (hi : IW X tg iter δ S xs G) (W : List PyData → Dl → Sto → Prop) (h0 : W xs δ S) (hG : ∀ r δ' S', W r δ' S' → G S')
    (hs : ∀ d r δ' S', W (d :: r) δ' S' → GW X tg (.d d) δ' S' fun δ2 S2 => SWs X body δ2 S2 { E with nx := W r, ct := W r, bk := E.nx }) (hd : ∀ δ' S', W [] δ' S' → E.nx δ' S') (hf : ∀ x, foldedSetIterable iter X.env x = pure x := by intro _; rfl) : SW X (.For tg iter body [] pos) δ S E := .mk fun O σ H F D M s q =>
  to_s (ps_for B.nv B.calm pw_i pw_g pw_ss hf) (hi O σ H F _ M s fun J H1 F1 e1 M1 dj => by
    refine ⟨fun i m σ' H' => m = xs.length - i ∧ i ≤ xs.length ∧ ∃ δ' S' F', Same F1 F' ∧ Mem X.K O H' F' S' ∧ Slots X.K F' σ' δ' ∧ W (xs.drop i) δ' S', ⟨xs.length, by simp, Nat.zero_le _, δ, S, F1, Same.refl _, M1, s.mono e1, by rw [List.drop_zero]; exact h0⟩, ?_⟩
    rintro i m σ2 H2 ⟨rfl, hi, δ2, S2, F2, e2, M2, s2, w2⟩
    obtain ⟨j1, j2, j3⟩ := dj O i H2 F2 S2 M2 e2 (hG _ _ _ w2)
    by_cases hlt : i < xs.length
    · refine .inr ⟨j1 hlt, fun σ' H' => ∃ δ' S' F', Same F1 F' ∧ Mem X.K O H' F' S' ∧ Slots X.K F' σ' δ' ∧ W (xs.drop (i + 1)) δ' S', fun σ' H' z => ⟨xs.length - (i + 1), by omega, rfl, hlt, z⟩, fun v H' y => ?_⟩
      obtain ⟨F3, d, d1, e3, M3, d2⟩ := j3 v H' hlt y
      rw [drop_cons d1] at w2
      refine hs d _ δ2 S2 w2 O σ2 H' F3 v _ M3 (s2.mono e3) d2 fun δ4 S4 σ4 H4 F4 e4 M4 s4 z => ?_
      have e34 := e3.trans e4
      refine z O σ4 H4 F4 _ M4 s4 ⟨fun δ5 S5 σ5 H5 F5 e5 M5 s5 w5 => ⟨δ5, S5, F5, e2.trans (e34.trans e5), M5, s5, w5⟩, q.rt.at (e1.trans (e2.trans e34)), q.nx.at (e1.trans (e2.trans e34)), fun δ5 S5 σ5 H5 F5 e5 M5 s5 w5 => ⟨δ5, S5, F5, e2.trans (e34.trans e5), M5, s5, w5⟩⟩
    · have hi' : i = xs.length := by omega
      refine .inl ⟨j2 hi', q.nx _ _ _ _ _ (e1.trans e2) M2 s2 (hd _ _ ?_)⟩
      rw [hi', List.drop_length] at w2
      exact w2)
end
end K23
/-! DL, part 7: comprehensions, defs -/
namespace K23
open PySem PySem.Spec PyProof.Rows L2

/-- the names of a scope, as the walk needs them -/
def visB (sc : Scope) (x : Str) : Bool := match sc.names.lookup x with
  | some .local => true
  | some .cell => true
  | some .free => true
  | _ => false
def locB (dn : Bool) (sc : Scope) (x : Str) : Bool := match sc.names.lookup x with
  | some .local => true
  | some .cell => dn
  | _ => false
def glB (sc : Scope) (x : Str) : Bool := match sc.names.lookup x with
  | some .globalImplicit => true
  | _ => false
def nmV (p : Str → Bool) : List Str → List Bool → Bool
  | x :: N, true :: bs => p x && nmV p N bs
  | _ :: N, false :: bs => nmV p N bs
  | _, [] => true
  | [], _ :: _ => false
/-- dn: the frame is a def's own -/
def nmB (dn : Bool) (sc : Scope) (N : List Str) (bs ls : List Bool) (gs : List Str) : Bool :=
  nmV (fun x => visB sc x && (!(x == ("__debug__" : Str)) && !(x == ("__classdict__" : Str)))) N bs && (nmV (fun x => locB dn sc x) N ls && gs.all fun x => glB sc x && (!(x == ("__debug__" : Str)) && !decide (x = "__name__")))
theorem nmV_get {p : Str → Bool} : ∀ {N : List Str} {bs : List Bool} {i : Nat} {x : Str}, nmV p N bs = true → N[i]? = some x → bs[i]? = some true → p x = true
  | [], _, i, x, _, h, _ => by simp at h
  | _ :: _, [], i, x, _, _, h => by simp at h
  | y :: N, true :: bs, 0, x, h, e, _ => by
    have e : y = x := by simpa using e
    subst e
    exact (Bool.and_eq_true_iff.mp h).1
  | y :: N, false :: bs, 0, x, h, e, e2 => by simp at e2
  | y :: N, true :: bs, i + 1, x, h, e, e2 => nmV_get (N := N) (bs := bs) (i := i) (Bool.and_eq_true_iff.mp h).2 (by simpa using e) (by simpa using e2)
  | y :: N, false :: bs, i + 1, x, h, e, e2 => nmV_get (N := N) (bs := bs) (i := i) h (by simpa using e) (by simpa using e2)
theorem visB_ok {sc : Scope} {x : Str} (h : visB sc x = true) : Vis sc x := by
  unfold visB at h
  split at h
  · exact .inl (by assumption)
  · exact .inr (.inl (by assumption))
  · exact .inr (.inr (by assumption))
  · cases h
theorem glB_ok {sc : Scope} {x : Str} (h : glB sc x = true) : sc.names.lookup x = some .globalImplicit := by
  unfold glB at h
  split at h
  · assumption
  · cases h
section
variable {sc : Scope} {N : List Str} {bs ls : List Bool} {gs : List Str} {dn : Bool}
theorem nm_vis (h : nmB dn sc N bs ls gs = true) {i : Nat} {x : Str} (h1 : N[i]? = some x) (h2 : bs[i]? = some true) : Vis sc x ∧ (x == ("__debug__" : Str)) = false ∧ (x == ("__classdict__" : Str)) = false := by
  have z := nmV_get (Bool.and_eq_true_iff.mp h).1 h1 h2
  obtain ⟨z1, z2⟩ := Bool.and_eq_true_iff.mp z
  obtain ⟨z3, z4⟩ := Bool.and_eq_true_iff.mp z2
  exact ⟨visB_ok z1, by simpa using z3, by simpa using z4⟩
theorem nm_loc (h : nmB dn sc N bs ls gs = true) {i : Nat} {x : Str} (h1 : N[i]? = some x) (h2 : ls[i]? = some true) : sc.names.lookup x = some .local ∨ (dn = true ∧ sc.names.lookup x = some .cell) := by
  have z := nmV_get (Bool.and_eq_true_iff.mp (Bool.and_eq_true_iff.mp h).2).1 h1 h2
  unfold locB at z
  split at z
  · exact .inl (by assumption)
  · exact .inr ⟨z, by assumption⟩
  · cases z
theorem nm_gl (h : nmB dn sc N bs ls gs = true) {x : Str} (hx : x ∈ gs) : sc.names.lookup x = some .globalImplicit ∧ (x == ("__debug__" : Str)) = false ∧ x ≠ "__name__" := by
  have z := List.all_eq_true.mp (Bool.and_eq_true_iff.mp (Bool.and_eq_true_iff.mp h).2).2 x hx
  obtain ⟨z1, z2⟩ := Bool.and_eq_true_iff.mp z
  obtain ⟨z3, z4⟩ := Bool.and_eq_true_iff.mp z2
  exact ⟨glB_ok z1, by simpa using z3, by simpa using z4⟩
end
/-- X' is the block of a comprehension with this scope, within X -/
def Bk (X : Cx) (scope : Scope) (X' : Cx) : Prop := ∃ (s : Shared) (H : Hp) (C : Addr) (cl : List (Str × Addr)) (fp : List Addr), X' = X.blk s H scope (compEnvC scope cl C X.env) fp
section
variable {Z : Zx} {X X' : Cx} {N : List Str} {sc scope : Scope} {bs ls : List Bool} {gs : List Str} {k : Nat}
theorem bd_blk [B : Bd Z X N sc bs ls gs k] {bs' ls' : List Bool} {gs' : List Str} (b : Bk X scope X') (hn : nmB false (relS scope sc) N bs' ls' gs' = true) : Bd Z X' N (relS scope sc) bs' ls' gs' k := by
  obtain ⟨s, H, C, cl, fp, rfl⟩ := b
  have hs : (X.blk s H scope (compEnvC scope cl C X.env) fp).env.scope = relS scope sc := by
    show relS scope X.env.scope = _
    rw [B.sc]
  exact ⟨B.prog, B.w, B.K, B.mg, B.base, B.Nn, B.nd, hs, B.calm, B.room, rfl, fun i x h1 h2 => by rw [hs]; exact nm_vis hn h1 h2,
    fun i x h1 h2 => by
      rw [hs]
      rcases nm_loc hn h1 h2 with z | z
      · exact ⟨.inl z, .inr z⟩
      · exact absurd z.1 (by decide),
    fun x hx => by
      obtain ⟨z1, z2, z3⟩ := nm_gl hn hx
      refine ⟨?_, z2, z3⟩
      show (X.blk s H scope (compEnvC scope cl C X.env) fp).env.scope.names.lookup x = some .globalImplicit
      rw [hs]; exact z1⟩
theorem bk_K (b : Bk X scope X') : X'.K = X.K := by obtain ⟨s, H, C, cl, fp, rfl⟩ := b; rfl
end
def wipeD (δ : Dl) : List Nat → Dl
  | [] => δ
  | v :: vs => (wipeD δ vs).set v none
theorem wipe_slots {K : Fg} {F : Hp} {σ : L2.St} {δ : Dl} (s : Slots K F σ δ) : ∀ vs : List Nat, Slots K F (wipe σ vs) (wipeD δ vs)
  | [] => s
  | v :: vs => (wipe_slots s vs).none v
theorem wipe_set' {σ : L2.St} {j : Nat} {o : Option V} : ∀ {vs : List Nat}, j ∈ vs → wipe (σ.set j o) vs = wipe σ vs
  | v :: vs, h => by
    show (wipe (σ.set j o) vs).set v none = (wipe σ vs).set v none
    by_cases hj : j ∈ vs
    · rw [wipe_set' hj]
    · have e : j = v := by
        rcases List.mem_cons.mp h with e | e
        · exact e
        · exact absurd e hj
      subst e
      refine List.ext_getElem? fun i => ?_
      by_cases hi : j = i
      · subst hi
        rw [List.getElem?_set, List.getElem?_set, if_pos rfl, if_pos rfl]
        have l1 : (wipe (σ.set j o) vs).length = (wipe σ vs).length := by rw [wipe_length, wipe_length, List.length_set]
        rw [l1]
      · rw [List.getElem?_set_ne hi, List.getElem?_set_ne hi]
        by_cases hv : i ∈ vs
        · have n1 : ∀ τ : L2.St, i < τ.length → (wipe τ vs)[i]? = some none := fun τ hl => by
            cases e : (wipe τ vs)[i]? with
            | none =>
              have := List.getElem?_eq_none_iff.mp e
              rw [wipe_length] at this
              omega
            | some u =>
              cases u with
              | none => rfl
              | some x => exact absurd hv (wipe_some e).2
          by_cases hl : i < σ.length
          · rw [n1 _ (by rw [List.length_set]; exact hl), n1 _ hl]
          · rw [List.getElem?_eq_none_iff.mpr (by rw [wipe_length, List.length_set]; omega), List.getElem?_eq_none_iff.mpr (by rw [wipe_length]; omega)]
        · rw [wipe_out hv, wipe_out hv, List.getElem?_set_ne hi]
section
variable {K : Fg} {O H F : Hp} {S : Sto} {D : Addr} {o o' : HO}
theorem Mem.addO (M : Mem K O H F S) (hD : H D = none) (o : HO) : Mem K (upd O D o) (upd H D o) F S := by
  refine ⟨fun a u e => ?_, fun a u e => ?_, M.dis, fun a u e => ?_⟩
  · by_cases ha : a = D
    · subst ha; rw [upd_same] at e ⊢; exact ⟨e, M.nF hD, M.nS hD⟩
    · rw [upd_ne ha] at e ⊢; exact M.out a u e
  · have ne : a ≠ D := fun z => by subst z; have z := M.fr a u e; rw [hD] at z; cases z
    rw [upd_ne ne]; exact M.fr a u e
  · have ne : a ≠ D := fun z => by subst z; have z := M.nS hD; rw [e] at z; cases z
    obtain ⟨ho, e1, e2⟩ := M.sto a u e
    exact ⟨ho, by rw [upd_ne ne]; exact e1, e2⟩
theorem Mem.putO (M : Mem K (upd O D o) H F S) (o' : HO) : Mem K (upd O D o') (upd H D o') F S := by
  obtain ⟨z1, z2, z3⟩ := M.out D o upd_same
  refine ⟨fun a u e => ?_, fun a u e => ?_, M.dis, fun a u e => ?_⟩
  · by_cases ha : a = D
    · subst ha; rw [upd_same] at e ⊢; exact ⟨e, z2, z3⟩
    · rw [upd_ne ha] at e ⊢; exact M.out a u (by rw [upd_ne ha]; exact e)
  · have ne : a ≠ D := fun z => by subst z; rw [z2] at e; cases e
    rw [upd_ne ne]; exact M.fr a u e
  · have ne : a ≠ D := fun z => by subst z; rw [z3] at e; cases e
    obtain ⟨ho, e1, e2⟩ := M.sto a u e
    exact ⟨ho, by rw [upd_ne ne]; exact e1, e2⟩
/-- the new list is one's own -/
theorem Mem.takeO {vs : List V} {xs : List SV} (M : Mem K (upd O D (.lst vs)) H F S) (hO : O D = none) (r : RepL K F vs xs) : Mem K O H F (supd S D (.lst xs)) := by
  obtain ⟨z1, z2, z3⟩ := M.out D _ upd_same
  refine ⟨fun a u e => ?_, M.fr, fun a u e => ?_, fun a u e => ?_⟩
  · have ne : a ≠ D := fun z => by subst z; rw [hO] at e; cases e
    rw [supd_ne ne]
    exact M.out a u (by rw [upd_ne ne]; exact e)
  · by_cases ha : a = D
    · subst ha; exact z2
    · rw [supd_ne ha] at e; exact M.dis a u e
  · by_cases ha : a = D
    · subst ha; rw [supd_same] at e; cases e; exact ⟨_, z1, vs, rfl, r⟩
    · rw [supd_ne ha] at e; exact M.sto a u e
end
end K23
/-! DL, part 8: list comprehensions; a def by its body -/
namespace K23
open PySem PySem.Spec PyProof.Rows L2
theorem wipe_idem {σ : L2.St} : ∀ {vs : List Nat} {j : Nat} {o : Option V}, j ∈ vs → wipe ((wipe σ vs).set j o) vs = wipe (wipe σ vs) vs := fun h => wipe_set' h
theorem wipe_twice {σ : L2.St} {vs : List Nat} : wipe (wipe σ vs) vs = wipe σ vs := by
  refine List.ext_getElem? fun i => ?_
  by_cases hv : i ∈ vs
  · have n1 : ∀ τ : L2.St, i < τ.length → (wipe τ vs)[i]? = some none := fun τ hl => by
      cases e : (wipe τ vs)[i]? with
      | none =>
        have := List.getElem?_eq_none_iff.mp e
        rw [wipe_length] at this
        omega
      | some u =>
        cases u with
        | none => rfl
        | some x => exact absurd hv (wipe_some e).2
    by_cases hl : i < σ.length
    · rw [n1 _ (by rw [wipe_length]; exact hl), n1 _ hl]
    · rw [List.getElem?_eq_none_iff.mpr (by rw [wipe_length, wipe_length]; omega), List.getElem?_eq_none_iff.mpr (by rw [wipe_length]; omega)]
  · rw [wipe_out hv]
theorem wipe_wipe {σ : L2.St} {vs : List Nat} {j : Nat} {o : Option V} (h : j ∈ vs) : wipe ((wipe σ vs).set j o) vs = wipe σ vs := by rw [wipe_set' h, wipe_twice]
/-- a comprehension, before it is known what becomes of its list -/
def LC (X : Cx) (elt tg iter : Expr) (ifs : List Expr) (scope : Scope) (δ : Dl) (S : Sto) (R : SV → Sto → Prop) : Prop := ∃ (own : List (Str × Nat)) (g : TG) (tt : TT) (te : TE), BlkOk X.N X.env.scope scope own ∧
  (∀ s H C cl fp, PG (X.blk s H scope (compEnvC scope cl C X.env) fp) tg g) ∧ (∀ s H C cl fp, PTs (X.blk s H scope (compEnvC scope cl C X.env) fp) ifs tt) ∧ (∀ s H C cl fp, PE (X.blk s H scope (compEnvC scope cl C X.env) fp) elt te) ∧
  (∀ x, foldedSetIterable iter X.env x = pure x) ∧ ∀ O σ H F Q, Mem X.K O H F S → Slots X.K F σ δ → KE X.K O F R Q → tLc (wpI X tg iter) g tt te (own.map (·.2)) σ H Q
section
variable {Z : Zx} {X : Cx} {N : List Str} {sc scope : Scope} {bs ls : List Bool} {gs : List Str} {k : Nat} [B : Bd Z X N sc bs ls gs k]
variable {elt tg iter c : Expr} {δ : Dl} {S : Sto} {pos px : Pos}
include B
theorem lc_gen {ifs : List Expr} {g : TG} {tt : TT} {te : TE} {xs : List PyData} {G : Sto → Prop} {R : SV → Sto → Prop} (own : List (Str × Nat)) (ok : blkC N sc scope own = true)
    (pg : ∀ s H C cl fp, PG (X.blk s H scope (compEnvC scope cl C X.env) fp) tg g) (pt : ∀ s H C cl fp, PTs (X.blk s H scope (compEnvC scope cl C X.env) fp) ifs tt) (pe : ∀ s H C cl fp, PE (X.blk s H scope (compEnvC scope cl C X.env) fp) elt te)
    (hi : IW X tg iter δ S xs G) (hz : xs.length < sizeLine) (W : List PyData → List SV → Sto → Prop) (h0 : W xs [] S) (hG : ∀ r acc S', W r acc S' → G S')
    (turn : ∀ d r acc S' O σ H F v, W (d :: r) acc S' → Mem X.K O H F S' → Slots X.K F σ δ → Dp X.K F v d → ∀ (Nn : Hp → Prop) (Ny : V → Hp → Prop), (∀ S2 H2 F2, Same F F2 → Mem X.K O H2 F2 S2 → W r acc S2 → Nn H2) →
      (∀ y S2 u H2 F2, Same F F2 → Mem X.K O H2 F2 S2 → RepV X.K F2 u y → W r (acc ++ [y]) S2 → Ny u H2) →
      g v (wipe σ (own.map (·.2))) H fun σ2 H2 => wipe σ2 (own.map (·.2)) = wipe σ (own.map (·.2)) ∧ tt σ2 H2 fun b H3 => if b = true then te σ2 H3 Ny else Nn H3)
    (hd : ∀ acc S', W [] acc S' → ∀ p, S' p = none → R (.r p) (supd S' p (.lst acc))) (hf : ∀ x, foldedSetIterable iter X.env x = pure x := by intro _; rfl) : LC X elt tg iter ifs scope δ S R := ⟨own, g, tt, te, blkOk_by (by rw [B.Nn, B.sc]; exact ok), pg, pt, pe, hf, fun O σ H F Q M s q =>
  (hi O σ H F _ M s fun J H1 F1 e1 M1 dj D hD => by
    have hO : O D = none := M1.nO hD
    refine ⟨fun i m H' => m = xs.length - i ∧ i ≤ xs.length ∧ ∃ acc vs S' F', Same F1 F' ∧ Mem X.K (upd O D (.lst vs)) H' F' S' ∧ RepL X.K F' vs acc ∧ acc.length ≤ i ∧ W (xs.drop i) acc S', ⟨xs.length, by simp, Nat.zero_le _, [], [], S, F1, Same.refl _, M1.addO hD _, .nil, Nat.le_refl _, by rw [List.drop_zero]; exact h0⟩, ?_⟩
    rintro i m H2 ⟨rfl, hi, acc, vs, S2, F2, e2, M2, r2, la, w2⟩
    obtain ⟨j1, j2, j3⟩ := dj _ i H2 F2 S2 M2 e2 (hG _ _ _ w2)
    by_cases hlt : i < xs.length
    · refine .inr ⟨j1 hlt, fun H' => i + 1 ≤ xs.length ∧ ∃ acc vs S' F', Same F1 F' ∧ Mem X.K (upd O D (.lst vs)) H' F' S' ∧ RepL X.K F' vs acc ∧ acc.length ≤ i + 1 ∧ W (xs.drop (i + 1)) acc S', fun H' z => ⟨xs.length - (i + 1), by omega, rfl, z⟩, fun v H' y => ?_⟩
      obtain ⟨F3, d, d1, e3, M3, d2⟩ := j3 v H' hlt y
      rw [drop_cons d1] at w2
      refine turn d _ acc S2 _ σ H' F3 v w2 M3 (s.mono (e1.trans (e2.trans e3))) d2 _ _ (fun S4 H4 F4 e4 M4 w4 => ?_) fun y S4 u H4 F4 e4 M4 r4 w4 => ?_
      · exact ⟨hlt, acc, vs, S4, F4, e2.trans (e3.trans e4), M4, repL_mono (e3.trans e4) r2, Nat.le_succ_of_le la, w4⟩
      · have r5 := repL_mono (e3.trans e4) r2
        refine ⟨vs, (M4.out D _ upd_same).1, by rw [repL_len r5]; omega, hlt, acc ++ [y], vs ++ [u], S4, F4, e2.trans (e3.trans e4), ?_, Paired.snoc r5 r4, by rw [List.length_append]; simp; omega, w4⟩
        have z := M4.putO (.lst (vs ++ [u]))
        exact z
    · have hi' : i = xs.length := by omega
      have w3 := w2
      rw [hi', List.drop_length] at w3
      have z := M2.takeO hO r2
      exact .inl ⟨j2 hi', q (.r D) _ (.ref D) H2 F2 (e1.trans e2) z rfl (hd acc S2 w3 D (M2.out D _ upd_same).2.2)⟩)⟩
/-- one name, no test -/
theorem lc_one {x : Str} {j : Nat} {xs : List PyData} {G : Sto → Prop} {R : SV → Sto → Prop} (own : List (Str × Nat)) (bs' ls' : List Bool) (gs' : List Str) [n : NAt N ls' x j] (ok : blkC N sc scope own = true) (hn : nmB false (relS scope sc) N bs' ls' gs' = true) (hj : j ∈ own.map (·.2))
    (hi : IW X (.Name x px) iter δ S xs G) (hz : xs.length < sizeLine) (W : List PyData → List SV → Sto → Prop) (h0 : W xs [] S) (hG : ∀ r acc S', W r acc S' → G S')
    (hb : ∀ X1 [Bd Z X1 N (relS scope sc) bs' ls' gs' k] d r acc S', W (d :: r) acc S' → EW X1 elt ((wipeD δ (own.map (·.2))).set j (some (.d d))) S' fun y S2 => W r (acc ++ [y]) S2)
    (hd : ∀ acc S', W [] acc S' → ∀ p, S' p = none → R (.r p) (supd S' p (.lst acc))) (hf : ∀ x, foldedSetIterable iter X.env x = pure x := by intro _; rfl) : LC X elt (.Name x px) iter [] scope δ S R := by
  obtain ⟨h1, h2⟩ := n.h
  refine lc_gen (g := gName j) (tt := tYes) (te := fun σ H Q => ∀ X1, Bk X scope X1 → wpE X1 elt σ H Q) own ok (fun s H C cl fp => ?_) (fun _ _ _ _ _ => pts_nil) (fun s H C cl fp => ⟨fun pins s' σ H' Q I h => h _ ⟨s, H, C, cl, fp, rfl⟩ pins s' I⟩) hi hz W h0 hG (fun d r acc S' O σ H F v w M s hv Nn Ny k1 k2 => ?_) hd hf
  · have b : Bk X scope (X.blk s H scope (compEnvC scope cl C X.env) fp) := ⟨s, H, C, cl, fp, rfl⟩
    have B' : Bd Z (X.blk s H scope (compEnvC scope cl C X.env) fp) N (relS scope sc) bs' ls' gs' k := bd_blk b hn
    obtain ⟨l1, l2⟩ := B'.sto j x h1 h2
    exact pg_name (by rw [B'.Nn]; exact B'.nd) (by rw [B'.Nn]; exact h1) l1 l2
  · refine ⟨wipe_wipe hj, ?_⟩
    show (if true = true then (∀ X1, Bk X scope X1 → wpE X1 elt _ H Ny) else Nn H)
    rw [if_pos rfl]
    intro X1 b
    have B' := bd_blk (k := k) b hn
    have hK := bk_K b
    refine hb X1 d r acc S' w O _ H F Ny (by rw [hK]; exact M) ?_ ?_
    · rw [hK]
      exact (wipe_slots s _).set j (x := .d d) hv
    · rw [hK]
      exact fun y S2 u H2 F2 e M2 r2 w2 => k2 y S2 u H2 F2 e M2 r2 w2
/-- one name, one test -/
theorem lc_if {x : Str} {j : Nat} {xs : List PyData} {G : Sto → Prop} {R : SV → Sto → Prop} (own : List (Str × Nat)) (bs' ls' : List Bool) (gs' : List Str) [n : NAt N ls' x j] (ok : blkC N sc scope own = true) (hn : nmB false (relS scope sc) N bs' ls' gs' = true) (hj : j ∈ own.map (·.2))
    (hi : IW X (.Name x px) iter δ S xs G) (hz : xs.length < sizeLine) (W : List PyData → List SV → Sto → Prop) (h0 : W xs [] S) (hG : ∀ r acc S', W r acc S' → G S')
    (hb : ∀ X1 [Bd Z X1 N (relS scope sc) bs' ls' gs' k] d r acc S', W (d :: r) acc S' → TW X1 c ((wipeD δ (own.map (·.2))).set j (some (.d d))) S' fun b S2 => if b = true then
      ∀ X2 [Bd Z X2 N (relS scope sc) bs' ls' gs' k], EW X2 elt ((wipeD δ (own.map (·.2))).set j (some (.d d))) S2 fun y S3 => W r (acc ++ [y]) S3 else W r acc S2)
    (hd : ∀ acc S', W [] acc S' → ∀ p, S' p = none → R (.r p) (supd S' p (.lst acc))) (hf : ∀ x, foldedSetIterable iter X.env x = pure x := by intro _; rfl) : LC X elt (.Name x px) iter [c] scope δ S R := by
  obtain ⟨h1, h2⟩ := n.h
  refine lc_gen (g := gName j) (tt := fun σ H Q => ∀ X1, Bk X scope X1 → wpT X1 c σ H Q) (te := fun σ H Q => ∀ X1, Bk X scope X1 → wpE X1 elt σ H Q) own ok (fun s H C cl fp => ?_) (fun s H C cl fp => pts_one ⟨fun pins s' σ H' Q I h => h _ ⟨s, H, C, cl, fp, rfl⟩ pins s' I⟩) (fun s H C cl fp => ⟨fun pins s' σ H' Q I h => h _ ⟨s, H, C, cl, fp, rfl⟩ pins s' I⟩) hi hz W h0 hG (fun d r acc S' O σ H F v w M s hv Nn Ny k1 k2 => ?_) hd hf
  · have b : Bk X scope (X.blk s H scope (compEnvC scope cl C X.env) fp) := ⟨s, H, C, cl, fp, rfl⟩
    have B' : Bd Z (X.blk s H scope (compEnvC scope cl C X.env) fp) N (relS scope sc) bs' ls' gs' k := bd_blk b hn
    obtain ⟨l1, l2⟩ := B'.sto j x h1 h2
    exact pg_name (by rw [B'.Nn]; exact B'.nd) (by rw [B'.Nn]; exact h1) l1 l2
  · refine ⟨wipe_wipe hj, fun X1 b => ?_⟩
    have B' := bd_blk (k := k) b hn
    have hK := bk_K b
    have s' := (wipe_slots s (own.map (·.2))).set j (x := .d d) hv
    refine hb X1 d r acc S' w O _ H F _ (by rw [hK]; exact M) (by rw [hK]; exact s') ?_
    rw [hK]
    intro t S2 H2 F2 e M2 w2
    cases t with
    | false => exact iteF (k1 S2 H2 F2 e M2 (by simpa using w2))
    | true =>
      rw [if_pos rfl] at w2
      rw [if_pos rfl]
      intro X2 b2
      have B2 := bd_blk (k := k) b2 hn
      have hK2 := bk_K b2
      refine w2 X2 O _ H2 F2 Ny (by rw [hK2]; exact M2) (by rw [hK2]; exact s'.mono e) ?_
      rw [hK2]
      exact fun y S3 u H3 F3 e3 M3 r3 w3 => k2 y S3 u H3 F3 (e.trans e3) M3 r3 w3
/-- two names of a pair, no test -/
theorem lc_two {x y : Str} {j l m : Nat} {px py : Pos} {xs : List PyData} {G : Sto → Prop} {R : SV → Sto → Prop} (own : List (Str × Nat)) (bs' ls' : List Bool) (gs' : List Str) [n : NAt N ls' x j] [n2 : NAt N ls' y l] (ok : blkC N sc scope own = true) (hn : nmB false (relS scope sc) N bs' ls' gs' = true) (hj : j ∈ own.map (·.2)) (hl : l ∈ own.map (·.2))
    (hi : IW X (.Tuple [.Name x px, .Name y py] m pos) iter δ S xs G) (hz : xs.length < sizeLine) (W : List PyData → List SV → Sto → Prop) (h0 : W xs [] S) (hG : ∀ r acc S', W r acc S' → G S')
    (hp : ∀ d r acc S', W (d :: r) acc S' → ∃ d1 d2, d = .tuple [d1, d2])
    (hb : ∀ X1 [Bd Z X1 N (relS scope sc) bs' ls' gs' k] d1 d2 r acc S', W (.tuple [d1, d2] :: r) acc S' → EW X1 elt (((wipeD δ (own.map (·.2))).set j (some (.d d1))).set l (some (.d d2))) S' fun y S2 => W r (acc ++ [y]) S2)
    (hd : ∀ acc S', W [] acc S' → ∀ p, S' p = none → R (.r p) (supd S' p (.lst acc))) (hf : ∀ x, foldedSetIterable iter X.env x = pure x := by intro _; rfl) : LC X elt (.Tuple [.Name x px, .Name y py] m pos) iter [] scope δ S R := by
  obtain ⟨h1, h2⟩ := n.h
  obtain ⟨g1, g2⟩ := n2.h
  refine lc_gen (g := gTup X.K 2 (gCons (gName j) (gCons (gName l) gNil))) (tt := tYes) (te := fun σ H Q => ∀ X1, Bk X scope X1 → wpE X1 elt σ H Q) own ok (fun s H C cl fp => ?_) (fun _ _ _ _ _ => pts_nil) (fun s H C cl fp => ⟨fun pins s' σ H' Q I h => h _ ⟨s, H, C, cl, fp, rfl⟩ pins s' I⟩) hi hz W h0 hG (fun d r acc S' O σ H F v w M s hv Nn Ny k1 k2 => ?_) hd hf
  · have b : Bk X scope (X.blk s H scope (compEnvC scope cl C X.env) fp) := ⟨s, H, C, cl, fp, rfl⟩
    have B' : Bd Z (X.blk s H scope (compEnvC scope cl C X.env) fp) N (relS scope sc) bs' ls' gs' k := bd_blk b hn
    obtain ⟨l1, l2⟩ := B'.sto j x h1 h2
    obtain ⟨l3, l4⟩ := B'.sto l y g1 g2
    exact pg_tup B'.calm (pgs_cons (pg_name (by rw [B'.Nn]; exact B'.nd) (by rw [B'.Nn]; exact h1) l1 l2) (pgs_cons (pg_name (by rw [B'.Nn]; exact B'.nd) (by rw [B'.Nn]; exact g1) l3 l4) pgs_nil))
  · obtain ⟨d1, d2, rfl⟩ := hp d r acc S' w
    cases hv with
    | @tup a vs ds t1 t2 =>
      cases t2 with
      | @cons v1 _ _ _ r1 t2 =>
        cases t2 with
        | @cons v2 _ _ _ r2 t2 =>
          cases t2
          refine ⟨a, _, rfl, sqT_mono M.fr t1, rfl, v1, [v2], rfl, v2, [], rfl, rfl, ?_, ?_⟩
          · rw [wipe_set' hl, wipe_wipe hj]
          · show (if true = true then (∀ X1, Bk X scope X1 → wpE X1 elt _ H Ny) else Nn H)
            rw [if_pos rfl]
            intro X2 b
            have B' := bd_blk (k := k) b hn
            have hK := bk_K b
            refine hb X2 d1 d2 r acc S' w O _ H F Ny (by rw [hK]; exact M) ?_ ?_
            · rw [hK]
              exact ((wipe_slots s _).set j (x := .d d1) r1).set l (x := .d d2) r2
            · rw [hK]
              exact fun y S2 u H2 F2 e M2 r2 w2 => k2 y S2 u H2 F2 e M2 r2 w2
theorem ew_lc {ifs : List Expr} {R : SV → Sto → Prop} (h : LC X elt tg iter ifs scope δ S R) : EW X (.ListComp elt [⟨tg, iter, ifs, 0⟩] scope pos) δ S R := .mk fun O σ H F Q M s q => by
  obtain ⟨own, g, tt, te, ok, pg, pt, pe, hf, h⟩ := h
  exact to_e (pe_lc (own := own) B.calm (by rw [B.Nn]; exact B.nd) pw_i ok pg pt pe hf) (h O σ H F Q M s q)
theorem sw_setLc {ifs : List Expr} {E : DE} {y : Str} {i : Nat} {py spos : Pos} [n : NAt N ls y i] (hl : X.env.scope.names.lookup y = some .local) (h : LC X elt tg iter ifs scope δ S fun v S' => E.nx (δ.set i (some v)) S')
    (hsw : swapsWith (.ListComp elt [⟨tg, iter, ifs, 0⟩] scope pos) (some (.Name y py)) spos.line X.env = pure true) : SW X (.Assign [.Name y py] (.ListComp elt [⟨tg, iter, ifs, 0⟩] scope pos) spos) δ S E := .mk fun O σ H F D M s q => by
  obtain ⟨h1, h2⟩ := n.h
  obtain ⟨own, g, tt, te, ok, pg, pt, pe, hf, h⟩ := h
  exact to_s (ps_setLc (i := i) (own := own) B.calm (by rw [B.Nn]; exact B.nd) (by rw [B.Nn]; exact h1) hl hsw pw_i ok pg pt pe hf) (h O σ H F _ M s fun v S1 u H1 F1 e1 M1 r1 z => q.nx _ _ _ _ _ e1 M1 ((s.mono e1).set i r1) z)
end

/-! ### a def of the text -/
class Df (Z : Zx) (x : Str) (st : outParam Stmt) : Prop where
  h : ∃ f fd, FunD Z.K x x (defArgs st) (defBody st) (defScope st) [] [] f fd ∧ Z.mg x = some (.ref f)
theorem slots0 {K : Fg} {F : Hp} {N : List Str} {vs : List V} {xs : List SV} (h : RepL K F vs xs) : Slots K F (L2.start N vs) (xs.map some ++ List.replicate (N.length - xs.length) none) := by
  have l := repL_len h
  refine ⟨by unfold L2.start; rw [List.length_append, List.length_append, List.length_map, List.length_map, List.length_replicate, List.length_replicate, l], fun i x hx => ?_⟩
  unfold L2.start
  by_cases hi : i < xs.length
  · rw [List.getElem?_append_left (by simpa using hi), List.getElem?_map] at hx
    cases e : xs[i]? with
    | none => rw [e] at hx; cases hx
    | some y =>
      rw [e] at hx
      have : y = x := by simpa using hx
      subst this
      obtain ⟨v, h1, h2⟩ := repL_get h e
      exact ⟨v, by rw [List.getElem?_append_left (by simpa [l] using hi), List.getElem?_map, h1]; rfl, h2⟩
  · rw [List.getElem?_append_right (by simpa using hi), List.getElem?_replicate] at hx
    split at hx <;> cases hx
/-- THE RULE of a def: its contract by its body -/
theorem fn_intro {Z : Zx} {x : Str} {st : Stmt} {N ps : List Str} {bs ls : List Bool} {gs : List Str} {k : Nat} {c : Ct} [D : Df Z x st] (Sc : FnScope N ps (defScope st)) (hn : nmB true (defScope st) N bs ls gs = true)
    (bind : ∀ (kV doc pm : Value) (an : Option Addr) (cdv ct : Value) (us : List Value), us.length = ps.length → bindArgs (PySem.W.fnOf x x (defArgs st) (defBody st) (defScope st) .none kV doc pm an cdv ct) ⟨us, []⟩ = pure (ps.zip us))
    (hl : ∀ xs S R, c xs S R → xs.length = ps.length)
    (hb : ∀ X [Bd Z X N (defScope st) bs ls gs k] xs S R, c xs S R → SWs X (defBody st) (xs.map some ++ List.replicate (N.length - xs.length) none) S { nx := fun _ S' => R (.d .none) S', rt := R }) : HasFn Z x ps (k + 1) c := by
  obtain ⟨f, fd, F, hm⟩ := D.h
  refine ⟨f, fd, hm, F.kp, F.bindsN bind, F.ok Sc (fun vs H Q E h => ?_) fun cdv A outer s H vs Q E hr h => ?_⟩
  · obtain ⟨O, F', S, xs, R, M, r, hc, _⟩ := h
    rw [repL_len r]; exact hl _ _ _ hc
  · obtain ⟨O, F', S, xs, R, M, r, hc, q⟩ := h
    generalize hX : (cxOf CX0 Z.P Z.w Z.K Z.mg Z.base N x (defScope st) f cdv A outer s H E).nox = X
    have hK : X.K = Z.K := by subst hX; rfl
    have hs : X.env.scope = defScope st := by subst hX; rfl
    have B : Bd Z X N (defScope st) bs ls gs k := by
      refine ⟨by subst hX; rfl, by subst hX; rfl, hK, by subst hX; rfl, by subst hX; rfl, by subst hX; rfl, Sc.nd, hs, by subst hX; rfl, by subst hX; exact hr, by subst hX; rfl, fun i y h1 h2 => by rw [hs]; exact nm_vis hn h1 h2, fun i y h1 h2 => ?_, fun y hy => ?_⟩
      · rw [hs]
        refine ⟨?_, .inl (by subst hX; rfl)⟩
        rcases nm_loc hn h1 h2 with z | z
        · exact .inl z
        · exact .inr z.2
      · obtain ⟨z1, z2, z3⟩ := nm_gl hn hy
        refine ⟨?_, z2, z3⟩
        show X.env.scope.names.lookup y = some .globalImplicit
        rw [hs]; exact z1
    refine ⟨wpSs X (defBody st), PSs.nox ?_, ?_⟩
    · rw [hX]; exact pw_ss
    · refine hb X xs S R hc O (L2.start N vs) H F' _ (by rw [hK]; exact M) (by rw [hK]; exact slots0 r) ⟨?_, ?_, ?_, ?_⟩
      · rw [hK]
        exact fun δ' S' σ' H' F2 e M' s' z => q (.d .none) S' .non H' F2 e M' Dp.non z
      · rw [hK]; exact q
      · exact fun _ _ _ _ _ _ _ _ z => z.elim
      · exact fun _ _ _ _ _ _ _ _ z => z.elim
end K23
/-! DL, part 9: short forms -/
namespace K23
open PySem PySem.Spec PyProof.Rows L2
theorem sw_retE {X : Cx} {e : Expr} {δ : Dl} {S : Sto} {E : DE} {pos : Pos} {v w : SV} (h : EV X e δ S v) (hw : v = w) (hr : E.rt w S) : SW X (.Return (some e) pos) δ S E := sw_ret (EV.use (EV.is h hw) hr)
theorem av_is1 {X : Cx} {es : List Expr} {δ : Dl} {S : Sto} {a b : SV} (h : AV X es δ S [a]) (e : a = b) : AV X es δ S [b] := e ▸ h
section
variable {X : Cx} {c : Expr} {ss1 ss2 rest : List Stmt} {δ : Dl} {S : Sto} {E : DE} {pos : Pos} {x : Bool}
/-- an if whose answer is known, more behind it -/
theorem sws_ifT (h : TV X c δ S x) (hx : x = true) (h1 : SWs X ss1 δ S { E with nx := fun δ' S' => SWs X rest δ' S' E }) : SWs X (.If c ss1 ss2 pos :: rest) δ S E := sws_cons (sw_if h (fun _ => h1) fun z => by rw [hx] at z; cases z)
theorem sws_ifF (h : TV X c δ S x) (hx : x = false) (h1 : SWs X ss2 δ S { E with nx := fun δ' S' => SWs X rest δ' S' E }) : SWs X (.If c ss1 ss2 pos :: rest) δ S E := sws_cons (sw_if h (fun z => by rw [hx] at z; cases z) fun _ => h1)
/-- an if without else -/
theorem sws_ifN (h : TV X c δ S x) (hx : x = false) (h1 : SWs X rest δ S E) : SWs X (.If c ss1 [] pos :: rest) δ S E := sws_ifF h hx (sws_nil h1)
/-- by both answers -/
theorem sws_if2 (h : TV X c δ S x) (h1 : x = true → SWs X ss1 δ S { E with nx := fun δ' S' => SWs X rest δ' S' E }) (h2 : x = false → SWs X rest δ S E) : SWs X (.If c ss1 [] pos :: rest) δ S E := sws_cons (sw_if h h1 fun z => sws_nil (h2 z))
end
theorem sws_setV {Z : Zx} {X : Cx} {N : List Str} {sc : Scope} {bs ls : List Bool} {gs : List Str} {k : Nat} [B : Bd Z X N sc bs ls gs k] {e : Expr} {rest : List Stmt} {δ : Dl} {S : Sto} {E : DE} {pos px : Pos} {x : Str} {i : Nat} {v : SV} [n : NAt N ls x i] (h : EV X e δ S v) (h1 : SWs X rest (δ.set i (some v)) S E) (hs : swapsWith e (some (.Name x px)) pos.line X.env = pure false := by rfl) : SWs X (.Assign [.Name x px] e pos :: rest) δ S E := sws_cons (sw_set (EV.use h h1) hs)
end K23
/-! DL, part 10: sorted(set(xs)) of a list of ints -/
namespace K23
open PySem PySem.Spec PyProof.Rows L2
abbrev nwS (w : World) : Obj := { cls := .type "set", dict := none, data := .set #[] 0 (.fresh 0 0 (!w.params.followText "set-order")) }
/-- what set(xs) leaves -/
def SetLeft (w : World) (h : Heap) (ns : List Int) (h' : Heap) (c : Nat) : Prop := SetR w h' h.objs.size (fun j => decide (j ∈ ns)) c ∧ c ≤ ns.length ∧ ∀ b o, h.get? b = some o → h'.get? b = some o
section
variable {P : Program} {w : World} {A : Around} {E : Value → Shared → Prop} {s : Shared}
theorem keep2 {h : Heap} {x y u : Obj} {b : Addr} (e : h.get? b = some u) : ((h.push x).push y).get? b = some u := Heap.get?_push_of_some _ (Heap.get?_push_of_some _ e)
set_option maxHeartbeats 8000000 in
/-- the set's filling from a list -/
theorem fill_list {l : Addr} {its : Array Value} (ns : List Int) {hh : A.handled = none} (hl : s.heap.IsList l its) (hI : IntsAre its.toList ns) (hb : ns.length + 1 < scanBound)
    (hT : Shared.TypeIs { s with heap := s.heap.push (nwS w) } (.ref s.heap.objs.size) "set") :
    codeAny (model P w) A (.call (.builtin "set.__init__") ⟨[.ref s.heap.objs.size, .ref l], []⟩) (wants (fun r s₂ => r = .none ∧ ∃ h' tk c, s₂ = { s with heap := h', toks := tk } ∧ SetLeft w s.heap ns h' c) E) { s with heap := s.heap.push (nwS w) } := by
  refine codeAny_call_builtin F.called_set.init.plain F.entry_set_init (check_set_init_1 hT ?_)
  have hsz : its.size = ns.length := by
    have q := IntsAre.length hI
    rwa [Array.length_toList] at q
  have hS : (s.heap.push (nwS w)).get? s.heap.objs.size = some (nwS w) := Heap.get?_push_size _ rfl
  obtain ⟨⟨oc, od, ox, os⟩, g, e1, m, e2⟩ := hl
  simp only at e1 e2
  subst e1 e2
  have g' : (s.heap.push (nwS w)).get? l = some { cls := .type "list", dict := od, data := .seq its m, slots := os } := Heap.get?_push_of_some _ g
  have n1 := F.sub_list_set
  have n2 := F.sub_list_frozenset
  have n3 : (Value.type "list" == Value.type "dict") = false := by decide
  have hl1 : (s.heap.push (nwS w)).IsList l its := ⟨_, g', rfl, m, rfl⟩
  unfold Builtin.«set.__init__» noKeywords Builtin.Frozenset.updateFrom
  generalize hit : pyIter = it
  wp_walk
  subst hit
  refine wpAny_pyIter_list hl1 ?_
  refine wpAny_bind (wpAny_runValue ?_)
  have lt : l < s.heap.objs.size := Heap.lt_size g
  have hA : A.in1.in1.handled = none := by simp [hh]
  have z : (s.heap.push (nwS w)).objs.size = s.heap.objs.size + 1 := Heap.size_push ..
  have ne : l ≠ (s.heap.push (nwS w)).objs.size := by rw [z]; exact Nat.ne_of_lt (Nat.lt_succ_of_lt lt)
  have nf : s.heap.objs.size ∉ [(s.heap.push (nwS w)).objs.size, l] := by
    rw [z]
    intro hm
    simp only [List.mem_cons, List.not_mem_nil, or_false] at hm
    exact hm.elim (fun q => absurd q (Nat.ne_of_lt (Nat.lt_succ_self _))) fun q => absurd q (Nat.ne_of_gt lt)
  have val : ∀ (i : Nat) (v : Value), its[i]? = some v → ∃ k t, ns[i]? = some k ∧ v = .int k t := fun i v hv => by
    have hi : i < ns.length := hsz ▸ (Array.getElem?_eq_some_iff.mp hv).1
    obtain ⟨t, e⟩ := hI.int_at i v (by rw [Array.getElem?_toList]; exact hv)
    rw [List.getD_eq_getElem?_getD, List.getElem?_eq_getElem hi] at e
    exact ⟨_, t, List.getElem?_eq_getElem hi, e⟩
  refine set_update_ints ((Walks.list hA _ l ne its).toS) s.heap.objs.size nf ns hsz hb val (its.size - 0) 0 _ (by omega) (Nat.zero_le _) ?_ ?_ ?_
  · exact ⟨⟨_, Heap.get?_push_size _ rfl, rfl, rfl⟩, hl1.push _⟩
  · exact ⟨0, Nat.le_refl 0, setR_new_at (Heap.get?_push_of_some { cls := .type "list_iterator", data := .fields #[.ref l, .int 0 0] } hS)⟩
  rintro ⟨h', g2, d', tk', os'⟩ c' mv hc' hS'
  have e1 : g2 = s.gens := mv.gens
  have e2 : d' = s.drawn := mv.drawn
  have e3 : os' = s.os := mv.os
  subst e1 e2 e3
  show wpAny _ _ _ _ _ _
  refine wpAny_pure ?_
  show wpAny _ _ (ret Value.none) _ _ _
  rw [hsz] at hc'
  refine wpAny_pure ⟨rfl, h', tk', c', rfl, hS', hc', fun b u e => mv.heap b u (fun hm => ?_) (keep2 e)⟩
  have b0 : b < s.heap.objs.size := Heap.lt_size e
  rw [z] at hm
  simp only [List.mem_cons, List.not_mem_nil, or_false] at hm
  exact hm.elim (fun q => absurd q (Nat.ne_of_lt b0)) fun q => absurd q (Nat.ne_of_lt (Nat.lt_succ_of_lt b0))
set_option maxHeartbeats 8000000 in
theorem set_of_list {l : Addr} {its : Array Value} (ns : List Int) {Q : Value → Shared → Prop} (hh : A.handled = none) (hl : s.heap.IsList l its) (hI : IntsAre its.toList ns) (hb : ns.length + 1 < scanBound)
    (hq : ∀ (h' : Heap) (tk c : Nat), SetLeft w s.heap ns h' c → Q (.ref s.heap.objs.size) { s with heap := h', toks := tk }) : wpAny (model P w) A (call (.type "set") [.ref l]) Q E s := by
  have ⟨cx, tl, mro⟩ := F.called_set.mro
  have made := F.called_set.made
  have sb := F.called_set.sub
  refine wpAny_call (codeAny_of_tree (?_ : wpAny _ _ (callAny (.type "set") _) _ _ _))
  refine wpAny_pure ⟨Code.quiet_builtin _ (by decide +kernel), codeAny_builtin F.entry_type_call ?_⟩
  rw [Around.under_plain (weight_type_call_type "set" [.ref l] []) rfl]
  have k1 := F.called_set.notType
  have k2 := F.called_set.canCreate
  have k3 := F.typeCall_set_1 (.ref l)
  repeat any_goals first | assumption | wp_step
  refine codeAny_mono (code_set_led1 (.ref l) (E := E) (Q₁ := fun v s' => v = .ref s.heap.objs.size ∧ s' = { s with heap := s.heap.push (nwS w) }) ⟨rfl, rfl⟩) fun r s' hr => ?_
  rcases r with e | fl
  · exact hr
  cases fl with
  | ret v =>
    obtain ⟨rfl, rfl⟩ := hr
    have hT : Shared.TypeIs { s with heap := s.heap.push (nwS w) } (.ref s.heap.objs.size) "set" := ⟨_, Heap.get?_push_size _ rfl, rfl⟩
    have k4 := F.called_set.init.lookup
    have k5 := F.called_set.init.bind (.ref s.heap.objs.size)
    repeat any_goals first | assumption | wp_step
    refine codeAny_mono (fill_list (E := E) ns (hh := by simp [hh]) hl hI hb hT) fun r2 s2 h2 => ?_
    rcases r2 with e | fl
    · exact h2
    cases fl with
    | ret v =>
      obtain ⟨rfl, h', tk, c, rfl, q⟩ := h2
      repeat any_goals first | assumption | wp_step
      exact hq h' tk c q
    | _ => exact h2.elim
  | _ => exact hr.elim
set_option maxHeartbeats 4000000 in
/-- sorted of a set of ints, of any size -/
theorem sort_set {a : Addr} {M : Int → Bool} {n : Nat} {Q : Value → Shared → Prop} (R : SetR w s.heap a M n) (hh : A.handled = none)
    (hq : ∀ s' p (out : Array Value) (c : Nat) (ns : List Int), (∀ b o, s.heap.get? b = some o → s'.heap.get? b = some o) ∧ s'.gens = s.gens ∧ s'.os = s.os → s.heap.objs.size ≤ p → s'.heap.get? p = some (seqObj "list" out c) →
      IntsAre out.toList ns → ns.Pairwise (· < ·) → (∀ k, k ∈ ns ↔ M k = true) → ns.length ≤ sizeLine → Q (.ref p) s') : wpAny (model P w) A (call (.builtin "sorted") [.ref a]) Q E s := by
  obtain ⟨o, es, ep, t, go, ex, ed, good, nd, mem, bd, fit, hn, ris, led⟩ := R
  refine Calls.call_function_entry kind_sorted plain_sorted entry_sorted (args_sorted1 _) ?_
  unfold Builtin.«sorted»
  refine wpAny_bind (m := checkCount "sorted" 1 1 _) (wpAny_pure (wpAny_bind (collect_set (A := A.in1) hh ⟨o, go, ex.1, ed⟩ fit bd ris led fun s1 vs k1 z1 g1 o1 pm => ?_)))
  have lv : vs.length = es.size := by rw [pm.length_eq, List.length_map, Array.length_toList]
  have lz : vs.length ≤ sizeLine := by rw [lv]; exact fits_of_scanBound bd
  have raw : (es.toList.map (·.2)).map SrtO.iv = es.toList.map keyOf := by
    rw [List.map_map]
    refine List.map_congr_left fun e he => ?_
    obtain ⟨k, tk, q, _⟩ := good e he
    show SrtO.iv e.2 = keyOf e
    unfold keyOf
    rw [q]; rfl
  have hI : IntsAre vs (vs.map SrtO.iv) := SrtO.ints_iv fun v hv => by
    obtain ⟨e, he, rfl⟩ := List.mem_map.mp (pm.mem_iff.mp hv)
    obtain ⟨k, tk, q, _⟩ := good e he
    exact ⟨k, tk, q⟩
  refine wpAny_bind (wpAny_newList ?_ lz)
  have at1 : (s1.heap.push (seqObj "list" vs.toArray 0)).get? s1.heap.objs.size = some (seqObj "list" vs.toArray 0) := Heap.get?_push_size _ rfl
  refine wpAny_bind (wpAny_holding (wpAny_call_entry slot_list_sort ⟨_, at1, rfl⟩ entry_list_sort (SrtO.list_sort_ord SrtO.swo_int at1 lz (fun h2 => SrtO.ints_sortable hI h2) fun out q1 q2 => ⟨_, rfl, ?_⟩) (args_list_sort _)))
  obtain ⟨r1, r2, r3⟩ := SrtO.ints_out hI q1 q2
  obtain ⟨c, hc⟩ := sortedHeap_at (vs := vs) (out := out.toArray) at1
  have pk := r2.trans ((pm.map SrtO.iv).trans (by rw [raw]))
  refine wpAny_pure ⟨_, rfl, hq _ s1.heap.objs.size out.toArray c (out.map SrtO.iv) ⟨fun b u e => ?_, g1, o1⟩ z1 hc r1 (lt_of_le_nodup _ r3 (pk.nodup_iff.mpr nd)) (fun k => by rw [pk.mem_iff, ← mem k]) (by rw [pk.length_eq, List.length_map, Array.length_toList, ← lv]; exact lz)⟩
  have l1 := Heap.lt_size (k1 b u e)
  refine (sortedHeap_old (Nat.ne_of_lt l1) (by rw [size_push']; exact Nat.lt_succ_of_lt l1)).trans (Heap.get?_push_of_some _ (k1 b u e))
end
section
variable {X : Cx}
def rSetL (K : Fg) (w : World) : List V → Hp → VK → Prop := fun vs H Q => ∃ (a : Addr) (ns : List Int), vs = [V.ref a] ∧ SqL K H a (ns.map V.int) ∧ ns.length + 1 < scanBound ∧ ∀ p c, H p = none → Q (.ref p) (upd H p (SetO w p (fun j => decide (j ∈ ns)) c))
theorem cr_setL (hc : X.calm = true) : CallR X (.type "set") (rSetL X.K X.w) := by
  intro pins s σ H vs us Q I r h
  obtain ⟨a, ns, rfl, hs, hb, q⟩ := h
  obtain ⟨its, rv, hl, hz⟩ := I.list hs
  rw [Vals.ref1 r]
  refine set_of_list ns (I.ok.hd hc) hl.isList (by rw [List.toList_toArray]; exact rv.ints) hb fun h' tk c z => ?_
  exact ⟨.ref _, _, I.laid (t' := tk) (fun b u e => z.2.2 b u e) (Nat.le_refl _) (setO_new z.1), rfl, q _ c (I.hok.fresh (Nat.le_refl _))⟩
def rSortS (w : World) : List V → Hp → VK → Prop := fun vs H Q => ∃ (a : Addr) (M : Int → Bool) (n : Nat), vs = [V.ref a] ∧ H a = some (SetO w a M n) ∧ ∀ (ns : List Int) p, ns.Pairwise (· < ·) → (∀ k : Int, k ∈ ns ↔ M k = true) → H p = none → Q (.ref p) (upd H p (.lst (ns.map V.int)))
theorem cr_sortS (hc : X.calm = true) : CallR X (.builtin "sorted") (rSortS X.w) := by
  intro pins s σ H vs us Q I r h
  obtain ⟨a, M, n, rfl, ha, q⟩ := h
  rw [Vals.ref1 r]
  refine sort_set (setO_get I ha) (I.ok.hd hc) fun s' p out c ns ⟨k, g, o⟩ hp hg hi hs hm hl => ?_
  have hn : H p = none := I.hok.fresh hp
  have J : Inv X pins σ (upd H p (.lst (ns.map V.int))) { s with heap := s'.heap, gens := s'.gens, drawn := s'.drawn, toks := s'.toks } :=
    I.call (ch := []) (Un.laid k hp hn) (I.hok.laid k hp ⟨by rwa [List.length_map], out.toList, c, vals_of_ints hi, hg⟩) (by rw [g]; exact I.bare) (fun _ z => nomatch z)
  have e : s' = { s with heap := s'.heap, gens := s'.gens, drawn := s'.drawn, toks := s'.toks } := by
    rcases s' with ⟨_, _, _, _, _⟩
    rcases s with ⟨_, _, _, _, _⟩
    subst o; rfl
  exact e ▸ ⟨.ref p, _, J, rfl, q ns p hs hm hn⟩
end
section
variable {Z : Zx} {X : Cx} {N : List Str} {sc : Scope} {bs ls : List Bool} {gs : List Str} {k : Nat} [B : Bd Z X N sc bs ls gs k]
variable {e : Expr} {δ : Dl} {S : Sto} {pos p pos2 p2 : Pos}
include B
/-- sorted(set(xs)) -/
theorem ew_sortSet {ns : List Int} {R : SV → Sto → Prop} [g : GAt gs "sorted"] [f : Free Z "sorted"] [g2 : GAt gs "set"] [f2 : Free Z "set"] (ha : EV X e δ S (.d (.list (ns.map PyData.int)))) (hb : ns.length + 1 < scanBound)
    (h : ∀ ms : List Int, ms.Pairwise (· < ·) → (∀ i, i ∈ ms ↔ i ∈ ns) → R (.d (.list (ms.map PyData.int))) S) (s1 : St1 X e := by exact rfl) (s2 : St1 X (.Call (.Name "set" p2) [e] [] pos2) := by exact rfl) :
    EW X (.Call (.Name "sorted" p) [.Call (.Name "set" p2) [e] [] pos2] [] pos) δ S R := .mk fun O σ H F Q M s kq => by
  obtain ⟨q1, q2, q3⟩ := B.gl "sorted" g.h
  obtain ⟨q4, q5, q6⟩ := B.gl "set" g2.h
  have t1 := pe_callTy (p := p2) (pos := pos2) (cr_setL (X := X) B.calm) q4 (by rw [B.mg]; exact f2.h) (by decide +kernel) (pa_cons pw_e pa_nil s1) q6 q5 s1 rfl
  refine to_e (pe_callB (cr_sortS B.calm) q1 (by rw [B.mg]; exact f.h) (by decide +kernel) (pa_cons t1 pa_nil s2) q3 q2 s2 rfl) ?_
  refine ha O σ H F _ M s fun v S1 u H1 F1 e1 M1 r1 z => ?_
  obtain ⟨rfl, rfl⟩ := z
  cases r1 with
  | @lst q xs _ h1 h2 =>
    refine ⟨q, ns, rfl, by rw [← ints_of h2]; exact M1.fr.seq h1, hb, fun p' c hp => ⟨p', _, c, rfl, upd_same, fun ms l hs hm hl => ?_⟩⟩
    exact (kq.at (e1.trans (same_upd (M1.nF hp)))).new (M1.data _ hp) hl (fun F2 e2 hh => .lst (SqL.of hh) (dp_ints ms)) (h ms hs fun i => by rw [hm i]; exact decide_eq_true_iff)
end
end K23
/-! DL, part 11: typed loops and comprehensions; the wide division -/
namespace K23
open PySem PySem.Spec PyProof.Rows L2
section
variable {X : Cx} {a b : Expr} {δ : Dl} {S : Sto} {pos : Pos} {i j : Int}
theorem op_fdivP : OpR X (binaryOp .FloorDiv) (rI (fun _ j => 0 < j ∧ j < 2 ^ 64) fun i j => .int (i / j)) := opI fun i j _ _ _ _ _ hc q => by
  obtain ⟨h1, h2⟩ := (hc : 0 < j ∧ j < 2 ^ 64)
  refine floordiv_int (by omega) (by rw [Int.fdiv_eq_ediv_of_nonneg i (by omega)]; exact q) (.inl (PyProof.noPylong_of_log2 ?_))
  have : j.natAbs.log2 < 64 := (Nat.log2_lt (by omega)).mpr (by omega)
  omega
theorem ev_fdivP (ha : EV X a δ S (.d (.int i))) (hb : EV X b δ S (.d (.int j))) (h1 : 0 < j) (h2 : j < 2 ^ 64) : EV X (.BinOp a .FloorDiv b pos) δ S (.d (.int (i / j))) := ev_tOp (pe_op op_fdivP pw_e pw_e) ha hb (bw_I ⟨h1, h2⟩ (fun _ => .int _) ⟨rfl, rfl⟩)
end
section
variable {Z : Zx} {X : Cx} {N : List Str} {sc scope : Scope} {bs ls : List Bool} {gs : List Str} {k : Nat} [B : Bd Z X N sc bs ls gs k]
variable {elt tg iter c e : Expr} {δ : Dl} {S : Sto} {pos px : Pos} {α : Type} {D : α → PyData} {ts : List α}
include B
/-- a loop, its items by types -/
theorem sw_forT {body : List Stmt} {E : DE} {G : Sto → Prop} (hi : IW X tg iter δ S (ts.map D) G) (W : List α → Dl → Sto → Prop) (h0 : W ts δ S) (hG : ∀ r δ' S', W r δ' S' → G S')
    (hs : ∀ t r δ' S', W (t :: r) δ' S' → GW X tg (.d (D t)) δ' S' fun δ2 S2 => SWs X body δ2 S2 { E with nx := W r, ct := W r, bk := E.nx }) (hd : ∀ δ' S', W [] δ' S' → E.nx δ' S')
    (hf : ∀ x, foldedSetIterable iter X.env x = pure x := by intro _; rfl) : SW X (.For tg iter body [] pos) δ S E :=
  sw_for hi (fun xs δ S => ∃ r, xs = r.map D ∧ W r δ S) ⟨ts, rfl, h0⟩ (fun _ _ _ ⟨r, _, w⟩ => hG r _ _ w) (fun d xs δ' S' ⟨r, e, w⟩ => by
    cases r with
    | nil => cases e
    | cons t r =>
      obtain ⟨e1, e2⟩ := List.cons.inj e
      subst e1; subst e2
      have wk : ∀ δ2 S2, W r δ2 S2 → ∃ r', r.map D = r'.map D ∧ W r' δ2 S2 := fun δ2 S2 w => ⟨r, rfl, w⟩
      exact .mk fun O σ H F v Q M s rv q => (hs t r δ' S' w) O σ H F v Q M s rv fun δ3 S3 σ3 H3 F3 e3 M3 s3 q3 => q δ3 S3 σ3 H3 F3 e3 M3 s3 (.mk fun O σ H F D M s kk => q3 O σ H F D M s ⟨fun δ4 S4 σ4 H4 F4 e4 M4 s4 w4 => kk.nx δ4 S4 σ4 H4 F4 e4 M4 s4 (wk _ _ w4), kk.rt, kk.bk, fun δ4 S4 σ4 H4 F4 e4 M4 s4 w4 => kk.ct δ4 S4 σ4 H4 F4 e4 M4 s4 (wk _ _ w4)⟩))
    (fun δ' S' ⟨r, e, w⟩ => by
      cases r with
      | nil => exact hd _ _ w
      | cons t r => cases e) hf
omit B in
theorem freeze {e : Expr} {ds : List PyData} {R : SV → Sto → Prop} (h : EW X e δ S fun v S1 => ∃ p, v = .r p ∧ S p = none ∧ S1 = supd S p (.lst (ds.map SV.d))) (hR : R (.d (.list ds)) S) : EW X e δ S R := by
  refine ew_frz (h.mono fun v S1 ⟨p, e1, e2, e3⟩ => ⟨p, ds, S, e1, by rw [e3]; exact supd_same, by rw [e3]; exact (SLe.refl S).new e2, e2, hR⟩)
omit B in
theorem ev_frz {e : Expr} {ds : List PyData} (h : EW X e δ S fun v S1 => ∃ p, v = .r p ∧ S1 p = some (.lst (ds.map SV.d)) ∧ SLe S S1 ∧ S p = none) : EV X e δ S (.d (.list ds)) :=
  ew_frz (h.mono fun v S1 ⟨p, e1, e2, e3, e4⟩ => ⟨p, ds, S, e1, e2, e3, e4, rfl, rfl⟩)
/-- [f x for x in xs] -/
theorem lcMG {x : Str} {j : Nat} {F : α → PyData} {R : SV → Sto → Prop} {G : Sto → Prop} (own : List (Str × Nat)) (bs' ls' : List Bool) (gs' : List Str) (ok : blkC N sc scope own = true) (hn : nmB false (relS scope sc) N bs' ls' gs' = true) [n : NAt N ls' x j] (hj : j ∈ own.map (·.2))
    (hi : IW X (.Name x px) iter δ S (ts.map D) G) (hG : G S) (hz : ts.length < sizeLine) (hb : ∀ X1 [Bd Z X1 N (relS scope sc) bs' ls' gs' k] t, t ∈ ts → EV X1 elt ((wipeD δ (own.map (·.2))).set j (some (.d (D t)))) S (.d (F t)))
    (hR : ∀ p, S p = none → R (.r p) (supd S p (.lst ((ts.map F).map SV.d)))) (hf : ∀ x, foldedSetIterable iter X.env x = pure x := by intro _; rfl) : LC X elt (.Name x px) iter [] scope δ S R :=
  lc_one own bs' ls' gs' ok hn hj hi (by rw [List.length_map]; exact hz) (fun r acc S' => S' = S ∧ ∃ l1 l2, ts = l1 ++ l2 ∧ r = l2.map D ∧ acc = (l1.map F).map SV.d) ⟨rfl, [], ts, rfl, rfl, rfl⟩ (fun _ _ _ z => by rw [z.1]; exact hG)
    (fun X1 _ d r acc S' ⟨e1, l1, l2, e2, e3, e4⟩ => by
      cases l2 with
      | nil => cases e3
      | cons t l2 =>
        obtain ⟨h1, h2⟩ := List.cons.inj e3
        subst e1; subst h1; subst h2
        refine (hb X1 t (by rw [e2]; simp)).use ⟨rfl, l1 ++ [t], l2, by rw [e2]; simp, rfl, by rw [e4]; simp⟩)
    (fun acc S' ⟨e1, l1, l2, e2, e3, e4⟩ p hp => by
      cases l2 with
      | nil => subst e1; rw [e4]; rw [e2, List.append_nil] at hR; exact hR p hp
      | cons t l2 => cases e3) hf
theorem ew_lcMG {x : Str} {j : Nat} {F : α → PyData} {R : SV → Sto → Prop} {G : Sto → Prop} (own : List (Str × Nat)) (bs' ls' : List Bool) (gs' : List Str) (ok : blkC N sc scope own = true) (hn : nmB false (relS scope sc) N bs' ls' gs' = true) [n : NAt N ls' x j] (hj : j ∈ own.map (·.2))
    (hi : IW X (.Name x px) iter δ S (ts.map D) G) (hG : G S) (hz : ts.length < sizeLine) (hb : ∀ X1 [Bd Z X1 N (relS scope sc) bs' ls' gs' k] t, t ∈ ts → EV X1 elt ((wipeD δ (own.map (·.2))).set j (some (.d (D t)))) S (.d (F t)))
    (hR : ∀ p, S p = none → R (.r p) (supd S p (.lst ((ts.map F).map SV.d)))) (hf : ∀ x, foldedSetIterable iter X.env x = pure x := by intro _; rfl) : EW X (.ListComp elt [⟨.Name x px, iter, [], 0⟩] scope pos) δ S R := ew_lc (lcMG own bs' ls' gs' ok hn hj hi hG hz hb hR hf)
/-- [f x for x in xs] -/
theorem ew_lcM {x : Str} {j : Nat} {F : α → PyData} {R : SV → Sto → Prop} (own : List (Str × Nat)) (bs' ls' : List Bool) (gs' : List Str) (ok : blkC N sc scope own = true) (hn : nmB false (relS scope sc) N bs' ls' gs' = true) [n : NAt N ls' x j] (hj : j ∈ own.map (·.2))
    (hi : IW X (.Name x px) iter δ S (ts.map D) GT) (hz : ts.length < sizeLine) (hb : ∀ X1 [Bd Z X1 N (relS scope sc) bs' ls' gs' k] t, t ∈ ts → EV X1 elt ((wipeD δ (own.map (·.2))).set j (some (.d (D t)))) S (.d (F t)))
    (hR : ∀ p, S p = none → R (.r p) (supd S p (.lst ((ts.map F).map SV.d)))) (hf : ∀ x, foldedSetIterable iter X.env x = pure x := by intro _; rfl) : EW X (.ListComp elt [⟨.Name x px, iter, [], 0⟩] scope pos) δ S R := ew_lcMG own bs' ls' gs' ok hn hj hi trivial hz hb hR hf
theorem ev_lcM {x : Str} {j : Nat} {F : α → PyData} (own : List (Str × Nat)) (bs' ls' : List Bool) (gs' : List Str) (ok : blkC N sc scope own = true) (hn : nmB false (relS scope sc) N bs' ls' gs' = true) [n : NAt N ls' x j] (hj : j ∈ own.map (·.2))
    (hi : IW X (.Name x px) iter δ S (ts.map D) GT) (hz : ts.length < sizeLine) (hb : ∀ X1 [Bd Z X1 N (relS scope sc) bs' ls' gs' k] t, t ∈ ts → EV X1 elt ((wipeD δ (own.map (·.2))).set j (some (.d (D t)))) S (.d (F t)))
    (hf : ∀ x, foldedSetIterable iter X.env x = pure x := by intro _; rfl) : EV X (.ListComp elt [⟨.Name x px, iter, [], 0⟩] scope pos) δ S (.d (.list (ts.map F))) :=
  freeze (ew_lcM own bs' ls' gs' ok hn hj hi hz hb (fun p hp => ⟨p, rfl, hp, rfl⟩) hf) ⟨rfl, rfl⟩
/-- [f x for x in xs if c] -/
theorem lcF {x : Str} {j : Nat} {P : α → Bool} {F : α → PyData} {R : SV → Sto → Prop} (own : List (Str × Nat)) (bs' ls' : List Bool) (gs' : List Str) (ok : blkC N sc scope own = true) (hn : nmB false (relS scope sc) N bs' ls' gs' = true) [n : NAt N ls' x j] (hj : j ∈ own.map (·.2))
    (hi : IW X (.Name x px) iter δ S (ts.map D) GT) (hz : ts.length < sizeLine) (hc : ∀ X1 [Bd Z X1 N (relS scope sc) bs' ls' gs' k] t, t ∈ ts → TV X1 c ((wipeD δ (own.map (·.2))).set j (some (.d (D t)))) S (P t))
    (hb : ∀ X1 [Bd Z X1 N (relS scope sc) bs' ls' gs' k] t, t ∈ ts → P t = true → EV X1 elt ((wipeD δ (own.map (·.2))).set j (some (.d (D t)))) S (.d (F t)))
    (hR : ∀ p, S p = none → R (.r p) (supd S p (.lst (((ts.filter P).map F).map SV.d)))) (hf : ∀ x, foldedSetIterable iter X.env x = pure x := by intro _; rfl) : LC X elt (.Name x px) iter [c] scope δ S R :=
  lc_if own bs' ls' gs' ok hn hj hi (by rw [List.length_map]; exact hz) (fun r acc S' => S' = S ∧ ∃ l1 l2, ts = l1 ++ l2 ∧ r = l2.map D ∧ acc = ((l1.filter P).map F).map SV.d) ⟨rfl, [], ts, rfl, rfl, rfl⟩ (fun _ _ _ _ => trivial)
    (fun X1 _ d r acc S' ⟨e1, l1, l2, e2, e3, e4⟩ => by
      cases l2 with
      | nil => cases e3
      | cons t l2 =>
        obtain ⟨h1, h2⟩ := List.cons.inj e3
        subst e1; subst h1; subst h2
        have ht : t ∈ ts := by rw [e2]; simp
        refine (hc X1 t ht).use ?_
        by_cases hp : P t = true
        · rw [if_pos hp]
          intro X2 _
          exact (hb X2 t ht hp).use ⟨rfl, l1 ++ [t], l2, by rw [e2]; simp, rfl, by rw [e4, List.filter_append, List.filter_cons_of_pos hp]; simp⟩
        · rw [if_neg hp]
          exact ⟨rfl, l1 ++ [t], l2, by rw [e2]; simp, rfl, by rw [e4, List.filter_append, List.filter_cons_of_neg hp]; simp⟩)
    (fun acc S' ⟨e1, l1, l2, e2, e3, e4⟩ p hp => by
      cases l2 with
      | nil => subst e1; rw [e4]; rw [e2, List.append_nil] at hR; exact hR p hp
      | cons t l2 => cases e3) hf
theorem ew_lcF {x : Str} {j : Nat} {P : α → Bool} {F : α → PyData} {R : SV → Sto → Prop} (own : List (Str × Nat)) (bs' ls' : List Bool) (gs' : List Str) (ok : blkC N sc scope own = true) (hn : nmB false (relS scope sc) N bs' ls' gs' = true) [n : NAt N ls' x j] (hj : j ∈ own.map (·.2))
    (hi : IW X (.Name x px) iter δ S (ts.map D) GT) (hz : ts.length < sizeLine) (hc : ∀ X1 [Bd Z X1 N (relS scope sc) bs' ls' gs' k] t, t ∈ ts → TV X1 c ((wipeD δ (own.map (·.2))).set j (some (.d (D t)))) S (P t))
    (hb : ∀ X1 [Bd Z X1 N (relS scope sc) bs' ls' gs' k] t, t ∈ ts → P t = true → EV X1 elt ((wipeD δ (own.map (·.2))).set j (some (.d (D t)))) S (.d (F t)))
    (hR : ∀ p, S p = none → R (.r p) (supd S p (.lst (((ts.filter P).map F).map SV.d)))) (hf : ∀ x, foldedSetIterable iter X.env x = pure x := by intro _; rfl) : EW X (.ListComp elt [⟨.Name x px, iter, [c], 0⟩] scope pos) δ S R := ew_lc (lcF own bs' ls' gs' ok hn hj hi hz hc hb hR hf)
theorem ev_lcF {x : Str} {j : Nat} {P : α → Bool} {F : α → PyData} (own : List (Str × Nat)) (bs' ls' : List Bool) (gs' : List Str) (ok : blkC N sc scope own = true) (hn : nmB false (relS scope sc) N bs' ls' gs' = true) [n : NAt N ls' x j] (hj : j ∈ own.map (·.2))
    (hi : IW X (.Name x px) iter δ S (ts.map D) GT) (hz : ts.length < sizeLine) (hc : ∀ X1 [Bd Z X1 N (relS scope sc) bs' ls' gs' k] t, t ∈ ts → TV X1 c ((wipeD δ (own.map (·.2))).set j (some (.d (D t)))) S (P t))
    (hb : ∀ X1 [Bd Z X1 N (relS scope sc) bs' ls' gs' k] t, t ∈ ts → P t = true → EV X1 elt ((wipeD δ (own.map (·.2))).set j (some (.d (D t)))) S (.d (F t))) (hf : ∀ x, foldedSetIterable iter X.env x = pure x := by intro _; rfl) :
    EV X (.ListComp elt [⟨.Name x px, iter, [c], 0⟩] scope pos) δ S (.d (.list ((ts.filter P).map F))) := freeze (ew_lcF own bs' ls' gs' ok hn hj hi hz hc hb (fun p hp => ⟨p, rfl, hp, rfl⟩) hf) ⟨rfl, rfl⟩
/-- [f x y for x, y in xs] -/
theorem ew_lc2 {x y : Str} {j l m : Nat} {ptx pty : Pos} {ptt : Pos} {D1 D2 F : α → PyData} {R : SV → Sto → Prop} (own : List (Str × Nat)) (bs' ls' : List Bool) (gs' : List Str) (ok : blkC N sc scope own = true) (hn : nmB false (relS scope sc) N bs' ls' gs' = true) [n : NAt N ls' x j] [n2 : NAt N ls' y l] (hj : j ∈ own.map (·.2)) (hl : l ∈ own.map (·.2))
    (hi : IW X (.Tuple [.Name x ptx, .Name y pty] m ptt) iter δ S (ts.map fun t => .tuple [D1 t, D2 t]) GT) (hz : ts.length < sizeLine) (hb : ∀ X1 [Bd Z X1 N (relS scope sc) bs' ls' gs' k] t, t ∈ ts → EV X1 elt (((wipeD δ (own.map (·.2))).set j (some (.d (D1 t)))).set l (some (.d (D2 t)))) S (.d (F t)))
    (hR : ∀ p, S p = none → R (.r p) (supd S p (.lst ((ts.map F).map SV.d)))) (hf : ∀ x, foldedSetIterable iter X.env x = pure x := by intro _; rfl) : EW X (.ListComp elt [⟨.Tuple [.Name x ptx, .Name y pty] m ptt, iter, [], 0⟩] scope pos) δ S R :=
  ew_lc (lc_two own bs' ls' gs' ok hn hj hl hi (by rw [List.length_map]; exact hz) (fun r acc S' => S' = S ∧ ∃ l1 l2, ts = l1 ++ l2 ∧ r = (l2.map fun t => .tuple [D1 t, D2 t]) ∧ acc = (l1.map F).map SV.d) ⟨rfl, [], ts, rfl, rfl, rfl⟩ (fun _ _ _ _ => trivial)
    (fun d r acc S' ⟨_, l1, l2, e2, e3, _⟩ => by
      cases l2 with
      | nil => cases e3
      | cons t l2 => exact ⟨_, _, (List.cons.inj e3).1⟩)
    (fun X1 _ d1 d2 r acc S' ⟨e1, l1, l2, e2, e3, e4⟩ => by
      cases l2 with
      | nil => cases e3
      | cons t l2 =>
        obtain ⟨h1, h2⟩ := List.cons.inj e3
        have h3 := PyData.tuple.inj h1
        obtain ⟨q1, q2⟩ := List.cons.inj h3
        obtain ⟨q3, _⟩ := List.cons.inj q2
        subst e1; subst q1; subst q3; subst h2
        refine (hb X1 t (by rw [e2]; simp)).use ⟨rfl, l1 ++ [t], l2, by rw [e2]; simp, rfl, by rw [e4]; simp⟩)
    (fun acc S' ⟨e1, l1, l2, e2, e3, e4⟩ p hp => by
      cases l2 with
      | nil => subst e1; rw [e4]; rw [e2, List.append_nil] at hR; exact hR p hp
      | cons t l2 => cases e3) hf)
theorem ev_lc2 {x y : Str} {j l m : Nat} {ptx pty : Pos} {ptt : Pos} {D1 D2 F : α → PyData} (own : List (Str × Nat)) (bs' ls' : List Bool) (gs' : List Str) (ok : blkC N sc scope own = true) (hn : nmB false (relS scope sc) N bs' ls' gs' = true) [n : NAt N ls' x j] [n2 : NAt N ls' y l] (hj : j ∈ own.map (·.2)) (hl : l ∈ own.map (·.2))
    (hi : IW X (.Tuple [.Name x ptx, .Name y pty] m ptt) iter δ S (ts.map fun t => .tuple [D1 t, D2 t]) GT) (hz : ts.length < sizeLine) (hb : ∀ X1 [Bd Z X1 N (relS scope sc) bs' ls' gs' k] t, t ∈ ts → EV X1 elt (((wipeD δ (own.map (·.2))).set j (some (.d (D1 t)))).set l (some (.d (D2 t)))) S (.d (F t)))
    (hf : ∀ x, foldedSetIterable iter X.env x = pure x := by intro _; rfl) : EV X (.ListComp elt [⟨.Tuple [.Name x ptx, .Name y pty] m ptt, iter, [], 0⟩] scope pos) δ S (.d (.list (ts.map F))) :=
  freeze (ew_lc2 own bs' ls' gs' ok hn hj hl hi hz hb (fun p hp => ⟨p, rfl, hp, rfl⟩) hf) ⟨rfl, rfl⟩
end
end K23
/-! DL, part 12: short forms for own lists and dicts -/
namespace K23
open PySem PySem.Spec PyProof.Rows L2
section
variable {X : Cx} {a b c e : Expr} {δ : Dl} {S : Sto} {pos p apos px : Pos} {rest : List Stmt} {E : DE}
/-- the truth of an int -/
theorem tv_int {i : Int} (h : EV X e δ S (.d (.int i))) (he : ∀ whole, isTrue e X.env whole = (do let v ← whole; standAt e.pos; holding [v] (truthy v)) := by intro _; rfl) : TV X e δ S (i != 0) := .mk fun O σ H F Q M s k =>
  to_t (pt_truth pw_e he) (h O σ H F _ M s fun v S' u H' F' e1 M1 r ⟨z1, z2⟩ => by
    subst z1; subst z2
    cases r
    exact ⟨_, rfl, k _ _ H' F' e1 M1 ⟨rfl, rfl⟩⟩)
theorem ev_ifI {x : Bool} {i j : Int} (h : TV X c δ S x) (h1 : x = true → EV X a δ S (.d (.int i))) (h2 : x = false → EV X b δ S (.d (.int j))) : EV X (.IfExp c a b pos) δ S (.d (.int (if x = true then i else j))) :=
  ev_if h (fun z => by rw [if_pos z]; exact h1 z) fun z => by rw [if_neg (by rw [z]; decide)]; exact h2 z
end
section
variable {Z : Zx} {X : Cx} {N : List Str} {sc : Scope} {bs ls : List Bool} {gs : List Str} {k : Nat} [B : Bd Z X N sc bs ls gs k]
variable {a b c e : Expr} {δ : Dl} {S : Sto} {pos p apos px py : Pos} {rest : List Stmt} {E : DE}
include B
/-- xs.append(e) as a statement, all plain -/
theorem sws_app {q : Addr} {xs : List SV} {v : SV} (ha : EV X a δ S (.r q)) (hq : S q = some (.lst xs)) (hb : EV X b δ S v) (hz : xs.length < sizeLine) (h1 : SWs X rest δ (supd S q (.lst (xs ++ [v]))) E)
    (s1 : St1 X b := by exact rfl) (hbase : attributeBase a "append" X.env (eval a X.env) = eval a X.env := by rfl)
    (hfew : ((backTo pos (starEach [b] X.env)).all (fun x => !x.1) && (backToKw pos (keywordEach [] X.env)).all (fun x => x.1.isSome) && decide (([b] : List Expr).length + ([] : List Keyword).length + (if ([] : List Keyword).isEmpty then 0 else 1) < 30)) = true := by rfl)
    (hline : (apos.endLine == pos.line) = true := by rfl) (hs : swapsWith (.Call (.Attribute a "append" apos) [b] [] pos) none p.line X.env = pure false := by rfl) : SWs X (.Expr (.Call (.Attribute a "append" apos) [b] [] pos) p :: rest) δ S E :=
  sws_cons (sw_expr (ew_append (ha.use ⟨q, xs, rfl, hq, hb.use ⟨xs, hq, hz, h1⟩⟩) s1 hbase hfew hline) hs)
/-- d[k] = v as a statement, all plain -/
theorem sws_dputV {q : Addr} {kvs : List (Key × SV)} {kk : Key} {v : SV} (he : EV X e δ S v) (ha : EV X a δ S (.r q)) (hb : EV X b δ S (.d (keyD kk))) (hq : S q = some (.dct kvs)) (hz : kvs.length < sizeLine) (h1 : SWs X rest δ (supd S q (.dct (putS kvs kk v))) E)
    (hs : swapsWith e (some (.Subscript a b px)) pos.line X.env = pure false := by rfl) : SWs X (.Assign [.Subscript a b px] e pos :: rest) δ S E :=
  sws_cons (sw_dput (he.use (ha.use (hb.use ⟨q, kvs, kk, rfl, rfl, hq, hz, h1⟩))) hs)
theorem ev_dget {q : Addr} {kvs : List (Key × SV)} {kk : Key} {v : SV} (ha : EV X a δ S (.r q)) (hb : EV X b δ S (.d (keyD kk))) (hq : S q = some (.dct kvs)) (hv : valS kvs kk = some v) (hs : NoSl b := by exact fun _ _ => rfl) : EV X (.Subscript a b pos) δ S v :=
  ew_dget (ha.use (hb.use ⟨q, kvs, kk, v, rfl, rfl, hq, hv, rfl, rfl⟩)) hs
theorem cv_din {q : Addr} {kvs : List (Key × SV)} {kk : Key} (ha : EV X a δ S (.d (keyD kk))) (hb : EV X b δ S (.r q)) (hq : S q = some (.dct kvs)) : CV X .In a b δ S (.d (.bool (valS kvs kk).isSome)) :=
  cw_din (ha.use (hb.use ⟨q, kvs, kk, rfl, rfl, hq, rfl, rfl⟩))
theorem cv_dnotin {q : Addr} {kvs : List (Key × SV)} {kk : Key} (ha : EV X a δ S (.d (keyD kk))) (hb : EV X b δ S (.r q)) (hq : S q = some (.dct kvs)) : CV X .NotIn a b δ S (.d (.bool (!(valS kvs kk).isSome))) :=
  cw_dnotin (ha.use (hb.use ⟨q, kvs, kk, rfl, rfl, hq, rfl, rfl⟩))
theorem ev_lenO {q : Addr} {xs : List SV} [g : GAt gs "len"] [f : Free Z "len"] (ha : EV X e δ S (.r q)) (hq : S q = some (.lst xs)) (s1 : St1 X e := by exact rfl) : EV X (.Call (.Name "len" p) [e] [] pos) δ S (.d (.int xs.length)) := ew_lenO (ha.use ⟨q, xs, rfl, hq, rfl, rfl⟩) s1
theorem ev_lenD {q : Addr} {xs : List (Key × SV)} [g : GAt gs "len"] [f : Free Z "len"] (ha : EV X e δ S (.r q)) (hq : S q = some (.dct xs)) (s1 : St1 X e := by exact rfl) : EV X (.Call (.Name "len" p) [e] [] pos) δ S (.d (.int xs.length)) := ew_lenD (ha.use ⟨q, xs, rfl, hq, rfl, rfl⟩) s1
omit B in
theorem ev_ixO {q : Addr} {xs : List SV} {i : Int} {v : SV} (ha : EV X a δ S (.r q)) (hb : EV X b δ S (.d (.int i))) (hq : S q = some (.lst xs)) (hv : atI xs i = some v) (hs : PlainIx b := by exact fun _ _ => rfl) : EV X (.Subscript a b pos) δ S v := ew_ixL (ha.use (hb.use ⟨q, xs, i, v, rfl, rfl, hq, hv, rfl, rfl⟩)) hs
/-- x = an own new list -/
theorem sws_newL {es : List Expr} {x : Str} {i : Nat} {xs : List SV} [n : NAt N ls x i] (ha : AV X es δ S xs) (hz : xs.length ≤ sizeLine) (h1 : ∀ q, S q = none → SWs X rest (δ.set i (some (.r q))) (supd S q (.lst xs)) E)
    (hs : swapsWith (.List es p) (some (.Name x px)) pos.line X.env = pure false := by rfl) : SWs X (.Assign [.Name x px] (.List es p) pos :: rest) δ S E := sws_cons (sw_set (ew_lstO (ha.use ⟨hz, h1⟩)) hs)
/-- x = {} -/
theorem sws_newD {x : Str} {i : Nat} [n : NAt N ls x i] (h1 : ∀ q, S q = none → SWs X rest (δ.set i (some (.r q))) (supd S q (.dct [])) E)
    (hs : swapsWith (.Dict [] [] p) (some (.Name x px)) pos.line X.env = pure false := by rfl) : SWs X (.Assign [.Name x px] (.Dict [] [] p) pos :: rest) δ S E := sws_cons (sw_set (ew_dctO h1) hs)
end
end K23
/-! DL, part 13: comparing plain data; typed dicts; sorted ints -/
namespace K23
open PySem PySem.Spec PyProof.Rows L2
theorem LC.mono {X : Cx} {elt tg iter : Expr} {ifs : List Expr} {scope : Scope} {δ : Dl} {S : Sto} {R R' : SV → Sto → Prop} (h : LC X elt tg iter ifs scope δ S R) (k : ∀ x S, R x S → R' x S) : LC X elt tg iter ifs scope δ S R' := by
  obtain ⟨own, g, tt, te, a, b, c, d, e, f⟩ := h
  exact ⟨own, g, tt, te, a, b, c, d, e, fun O σ H F Q M s q => f O σ H F Q M s (q.mono (Same.refl _) k)⟩
section
variable {Z : Zx} {X : Cx} {N : List Str} {sc scope : Scope} {bs ls : List Bool} {gs : List Str} {k : Nat} [B : Bd Z X N sc bs ls gs k]
variable {a b c e elt tg iter : Expr} {δ : Dl} {S : Sto} {pos p spos py : Pos} {rest : List Stmt} {E : DE}
include B
/-- x = [..], made plain at once -/
theorem sws_setLcD {ifs : List Expr} {y : Str} {i : Nat} {ds : List PyData} [n : NAt N ls y i] (hl : X.env.scope.names.lookup y = some .local) (hi : i < δ.length)
    (h : LC X elt tg iter ifs scope δ S fun v S1 => ∃ p, v = .r p ∧ S p = none ∧ S1 = supd S p (.lst (ds.map SV.d))) (h1 : SWs X rest (δ.set i (some (.d (.list ds)))) S E)
    (hsw : swapsWith (.ListComp elt [⟨tg, iter, ifs, 0⟩] scope pos) (some (.Name y py)) spos.line X.env = pure true) : SWs X (.Assign [.Name y py] (.ListComp elt [⟨tg, iter, ifs, 0⟩] scope pos) spos :: rest) δ S E :=
  sws_cons (sw_setLc hl (h.mono fun v S1 ⟨p, e1, e2, e3⟩ => by
    subst e1; subst e3
    refine sws_frz (i := i) (q := p) (S' := S) ?_ supd_same ((SLe.refl S).new e2) e2 ?_
    · rw [List.getElem?_set_self hi]
    · rw [List.set_set]; exact h1) hsw)
/-- range(a, b, c) -/
theorem iw_range3 {i j m : Int} {n : Nat} [g : GAt gs "range"] [f : Free Z "range"] (ha : EV X a δ S (.d (.int i))) (hb : EV X b δ S (.d (.int j))) (hc : EV X c δ S (.d (.int m))) (h : RgC i j m n)
    (hs : starEach [a, b, c] X.env = (false, eval a X.env) :: starEach [b, c] X.env := by exact rfl) (s2 : St2 X b c := by exact rfl) (s1 : St1 X c := by exact rfl) :
    IW X tg (.Call (.Name "range" p) [a, b, c] [] pos) δ S ((List.range n).map fun (t : Nat) => PyData.int (i + t * m)) GT := fun O σ H F R M s kk =>
  to_i (pi_range3 (B.gl _ g.h).1 (by rw [B.mg]; exact f.h) (pa_cons pw_e (pa_cons pw_e (pa_cons pw_e pa_nil s1) s2) hs) hs (by rw [s2, s1]; rfl)) (ha O σ H F _ M s fun v S1 u H1 F1 e1 M1 r1 z => by
    obtain ⟨rfl, rfl⟩ := z
    refine hb O σ H1 F1 _ M1 (s.mono e1) fun w S2 u2 H2 F2 e2 M2 r2 z => ?_
    obtain ⟨rfl, rfl⟩ := z
    refine hc O σ H2 F2 _ M2 (s.mono (e1.trans e2)) fun w S3 u3 H3 F3 e3 M3 r3 z => ?_
    obtain ⟨rfl, rfl⟩ := z
    cases r1; cases r2; cases r3
    refine ⟨i, j, m, n, rfl, h, kk _ H3 F3 (e1.trans (e2.trans e3)) M3 fun O t H F1 S M e _ => ?_⟩
    rw [List.length_map, List.length_range]
    refine ⟨fun hi => hi, fun hi => Nat.le_of_eq hi.symm, fun v H' hi y => ?_⟩
    obtain ⟨rfl, rfl⟩ := y
    exact ⟨F1, .int (i + t * m), by rw [List.getElem?_map, List.getElem?_range hi]; rfl, Same.refl _, M, .int _⟩)
end
/-! ### plain data that may be compared -/
def lay (n : Nat) (d : PyData) : Prop := d.canLay0 = true ∧ d.depth ≤ n
theorem lay_shp {n : Nat} {d : PyData} (h : lay n d) (hn : n ≤ 64) : shp d := by
  unfold shp SeqAt.shaped
  rw [h.1, decide_eq_true (Nat.le_trans h.2 hn)]; rfl
theorem lay.up {n m : Nat} {d : PyData} (h : lay n d) (hn : n ≤ m) : lay m d := ⟨h.1, Nat.le_trans h.2 hn⟩
theorem lay_all {n : Nat} : ∀ {ds : List PyData}, (∀ d ∈ ds, lay n d) → PyData.canLayAll0 ds = true ∧ PyData.depthAll ds ≤ n
  | [], _ => ⟨rfl, Nat.zero_le _⟩
  | d :: ds, h => by
    obtain ⟨h1, h2⟩ := h d List.mem_cons_self
    obtain ⟨h3, h4⟩ := lay_all fun e he => h e (List.mem_cons_of_mem _ he)
    exact ⟨by show (d.canLay0 && PyData.canLayAll0 ds) = true; rw [h1, h3]; rfl, Nat.max_le.mpr ⟨h2, h4⟩⟩
theorem lay_tup {n : Nat} {ds : List PyData} (h : ∀ d ∈ ds, lay n d) : lay (n + 1) (.tuple ds) := ⟨(lay_all h).1, Nat.succ_le_succ (lay_all h).2⟩
theorem lay_lst {n : Nat} {ds : List PyData} (h : ∀ d ∈ ds, lay n d) : lay (n + 1) (.list ds) := ⟨(lay_all h).1, Nat.succ_le_succ (lay_all h).2⟩
theorem lay_int {n : Nat} {i : Int} : lay n (.int i) := ⟨rfl, Nat.zero_le _⟩
theorem lay_bool {n : Nat} {i : Bool} : lay n (.bool i) := ⟨rfl, Nat.zero_le _⟩
theorem lay_none {n : Nat} : lay n .none := ⟨rfl, Nat.zero_le _⟩
mutual
def noB : PyData → Bool
  | .none | .int _ | .str _ => true
  | .bool _ | .dict _ => false
  | .list xs | .tuple xs => noBAll xs
def noBAll : List PyData → Bool
  | [] => true
  | x :: xs => noB x && noBAll xs
end
mutual
theorem eqv_iff : ∀ (d e : PyData), noB d = true → noB e = true → (PyData.eqv d e = true ↔ d = e)
  | .none, e, _, h => by cases e <;> first | (simp [PyData.eqv]; done) | cases h
  | .int i, e, _, h => by cases e <;> first | (simp [PyData.eqv]; done) | cases h
  | .str i, e, _, h => by cases e <;> first | (simp [PyData.eqv]; done) | cases h
  | .list xs, e, h1, h2 => by
    cases e with
    | list ys => simp only [PyData.eqv]; rw [eqvAll_iff xs ys h1 h2]; constructor <;> intro z <;> first | rw [z] | exact PyData.list.inj z
    | _ => first | (simp [PyData.eqv]; done) | cases h2
  | .tuple xs, e, h1, h2 => by
    cases e with
    | tuple ys => simp only [PyData.eqv]; rw [eqvAll_iff xs ys h1 h2]; constructor <;> intro z <;> first | rw [z] | exact PyData.tuple.inj z
    | _ => first | (simp [PyData.eqv]; done) | cases h2
  | .bool _, _, h, _ => by cases h
  | .dict _, _, h, _ => by cases h
theorem eqvAll_iff : ∀ (d e : List PyData), noBAll d = true → noBAll e = true → (PyData.eqvAll d e = true ↔ d = e)
  | [], [], _, _ => by simp [PyData.eqvAll]
  | [], _ :: _, _, _ => by simp [PyData.eqvAll]
  | _ :: _, [], _, _ => by simp [PyData.eqvAll]
  | x :: xs, y :: ys, h1, h2 => by
    obtain ⟨a1, a2⟩ := Bool.and_eq_true_iff.mp (show (noB x && noBAll xs) = true from h1)
    obtain ⟨b1, b2⟩ := Bool.and_eq_true_iff.mp (show (noB y && noBAll ys) = true from h2)
    simp only [PyData.eqvAll]
    rw [Bool.and_eq_true_iff, eqv_iff x y a1 b1, eqvAll_iff xs ys a2 b2, List.cons.injEq]
end
theorem noBAll_iff : ∀ {xs : List PyData}, noBAll xs = true ↔ ∀ x ∈ xs, noB x = true
  | [] => by simp [noBAll]
  | x :: xs => by
    show (noB x && noBAll xs) = true ↔ _
    rw [Bool.and_eq_true_iff, noBAll_iff]; simp
/-! ### typed dicts with int keys -/
def valT {β : Type} (m : List (Int × β)) (k : Int) : Option β := match m with
  | [] => none
  | p :: r => if p.1 = k then some p.2 else valT r k
def hasT {β : Type} (m : List (Int × β)) (k : Int) : Bool := (valT m k).isSome
def putT {β : Type} (m : List (Int × β)) (k : Int) (v : β) : List (Int × β) := if hasT m k = true then m.map fun p => if p.1 = k then (p.1, v) else p else m ++ [(k, v)]
abbrev ki (i : Int) : Key := .inl i
theorem ki_ne {i j : Int} (h : i ≠ j) : ¬ ki i = ki j := fun z => h (Sum.inl.inj z)
def kvT {β : Type} (D : β → SV) (m : List (Int × β)) : List (Key × SV) := m.map fun p => (ki p.1, D p.2)
section
variable {β : Type} {D : β → SV} {m : List (Int × β)} {k j : Int} {v w : β}
theorem val_kv : ∀ {m : List (Int × β)}, valS (kvT D m) (ki k) = (valT m k).map D
  | [] => rfl
  | p :: r => by
    show valS ((ki p.1, D p.2) :: kvT D r) _ = _
    rw [valS_cons]
    unfold valT
    by_cases h : p.1 = k
    · rw [if_pos h, if_pos (by rw [h])]; rfl
    · rw [if_neg h, if_neg (ki_ne h)]; exact val_kv
theorem any_kv : ∀ {m : List (Int × β)}, ((kvT D m).any fun kv => decide (kv.1 = ki k)) = hasT m k
  | [] => rfl
  | p :: r => by
    show (decide (ki p.1 = ki k) || (kvT D r).any _) = _
    rw [any_kv]
    unfold hasT
    conv => rhs; unfold valT
    by_cases h : p.1 = k
    · rw [if_pos h, h]; simp
    · rw [if_neg h, decide_eq_false (ki_ne h), Bool.false_or]
theorem put_kv : putS (kvT D m) (ki k) (D v) = kvT D (putT m k v) := by
  unfold putS putT
  rw [any_kv]
  split
  · unfold kvT
    rw [List.map_map, List.map_map]
    refine List.map_congr_left fun p _ => ?_
    show (if ki p.1 = ki k then (ki p.1, D v) else (ki p.1, D p.2)) = _
    by_cases h : p.1 = k
    · rw [if_pos (by rw [h])]; simp [h]
    · rw [if_neg (ki_ne h)]; simp [h]
  · unfold kvT
    rw [List.map_append]; rfl
theorem valT_map : ∀ {m : List (Int × β)}, valT (m.map fun p => if p.1 = k then (p.1, v) else p) j = if j = k then (valT m k).map fun _ => v else valT m j
  | [] => by simp [valT]
  | p :: r => by
    have ih := valT_map (m := r)
    rw [List.map_cons]
    unfold valT
    by_cases h1 : p.1 = k
    · rw [if_pos h1]
      by_cases h2 : j = k
      · rw [if_pos h2, if_pos (by rw [h2]; exact h1), if_pos h1]; rfl
      · rw [if_neg h2, if_neg (by intro z; exact h2 (by rw [← z]; exact h1)), if_neg (by intro z; exact h2 (by rw [← z]; exact h1)), ih, if_neg h2]
    · rw [if_neg h1]
      by_cases h3 : p.1 = j
      · rw [if_pos h3, if_neg (by intro z; exact h1 (by rw [h3]; exact z)), if_pos h3]
      · rw [if_neg h3, ih, if_neg h3, if_neg h1]
theorem valT_app : ∀ {m : List (Int × β)}, valT (m ++ [(k, v)]) j = if hasT m j = true then valT m j else if k = j then some v else none
  | [] => by
    show (if k = j then some v else none) = _
    simp [hasT, valT]
  | p :: r => by
    have ih := valT_app (m := r)
    show (if p.1 = j then some p.2 else valT (r ++ [(k, v)]) j) = _
    unfold hasT
    conv => rhs; unfold valT
    by_cases h : p.1 = j
    · simp [h]
    · simp only [if_neg h]; exact ih
theorem valT_put : valT (putT m k v) j = if j = k then some v else valT m j := by
  unfold putT
  by_cases h : hasT m k = true
  · rw [if_pos h, valT_map]
    by_cases e : j = k
    · rw [if_pos e, if_pos e]
      unfold hasT at h
      obtain ⟨x, hx⟩ := Option.isSome_iff_exists.mp h
      rw [hx]; rfl
    · rw [if_neg e, if_neg e]
  · rw [if_neg h, valT_app]
    by_cases e : j = k
    · subst e
      rw [if_neg h, if_pos rfl, if_pos rfl]
    · rw [if_neg e, if_neg (fun z : k = j => e z.symm)]
      unfold hasT
      cases valT m j <;> rfl
theorem put_len : (putT m k v).length = if hasT m k = true then m.length else m.length + 1 := by
  unfold putT
  split
  · rw [List.length_map]
  · rw [List.length_append]; rfl
theorem put_keys : (putT m k v).map (·.1) = if hasT m k = true then m.map (·.1) else m.map (·.1) ++ [k] := by
  unfold putT
  split
  · rw [List.map_map]
    refine List.map_congr_left fun p _ => ?_
    show (if p.1 = k then (p.1, v) else p).1 = p.1
    split <;> rfl
  · rw [List.map_append]; rfl
theorem has_mem : ∀ {m : List (Int × β)}, hasT m k = true ↔ k ∈ m.map (·.1)
  | [] => by simp [hasT, valT]
  | p :: r => by
    have ih := has_mem (m := r)
    unfold hasT at ih ⊢
    unfold valT
    rw [List.map_cons, List.mem_cons]
    by_cases h : p.1 = k
    · simp [h]
    · rw [if_neg h, ih]
      constructor
      · exact .inr
      · rintro (z | z)
        · exact absurd z.symm h
        · exact z
end
/-! ### ints, sorted -/
def insI (x : Int) : List Int → List Int
  | [] => [x]
  | y :: ys => if x ≤ y then x :: y :: ys else y :: insI x ys
def isort (ns : List Int) : List Int := ns.foldr insI []
theorem insI_perm {x : Int} : ∀ {ys : List Int}, (insI x ys).Perm (x :: ys)
  | [] => List.Perm.refl _
  | y :: ys => by
    unfold insI
    split
    · exact List.Perm.refl _
    · exact (List.Perm.cons y insI_perm).trans (List.Perm.swap x y ys)
theorem insI_asc {x : Int} : ∀ {ys : List Int}, ys.Pairwise (· ≤ ·) → (insI x ys).Pairwise (· ≤ ·)
  | [], _ => by simp [insI]
  | y :: ys, h => by
    obtain ⟨h1, h2⟩ := List.pairwise_cons.mp h
    unfold insI
    split
    · rename_i hx
      exact List.pairwise_cons.mpr ⟨fun z hz => by
        rcases List.mem_cons.mp hz with e | e
        · rw [e]; exact hx
        · exact Int.le_trans hx (h1 z e), h⟩
    · rename_i hx
      exact List.pairwise_cons.mpr ⟨fun z hz => by
        rcases List.mem_cons.mp (insI_perm.mem_iff.mp hz) with e | e
        · rw [e]; omega
        · exact h1 z e, insI_asc h2⟩
theorem isort_perm : ∀ {ns : List Int}, (isort ns).Perm ns
  | [] => List.Perm.refl _
  | n :: ns => insI_perm.trans (List.Perm.cons n isort_perm)
theorem isort_asc : ∀ {ns : List Int}, (isort ns).Pairwise (· ≤ ·)
  | [] => List.Pairwise.nil
  | n :: ns => insI_asc (isort_asc (ns := ns))
theorem le_ext : ∀ {xs ys : List Int}, xs.Pairwise (· ≤ ·) → ys.Pairwise (· ≤ ·) → xs.Perm ys → xs = ys
  | [], ys, _, _, h => (List.Perm.nil_eq h)
  | x :: xs, [], _, _, h => by have := h.length_eq; simp at this
  | x :: xs, y :: ys, hx, hy, h => by
    obtain ⟨a1, a2⟩ := List.pairwise_cons.mp hx
    obtain ⟨b1, b2⟩ := List.pairwise_cons.mp hy
    have e : x = y := by
      have k1 := h.mem_iff.mp (List.mem_cons_self (a := x) (l := xs))
      have k2 := h.mem_iff.mpr (List.mem_cons_self (a := y) (l := ys))
      rcases List.mem_cons.mp k1 with e | e
      · exact e
      · rcases List.mem_cons.mp k2 with e' | e'
        · exact e'.symm
        · have := a1 y e'; have := b1 x e; omega
    subst e
    exact congrArg (x :: ·) (le_ext a2 b2 (List.Perm.cons_inv h))
section
variable {Z : Zx} {X : Cx} {N : List Str} {sc scope : Scope} {bs ls : List Bool} {gs : List Str} {k : Nat} [B : Bd Z X N sc bs ls gs k]
variable {e : Expr} {δ : Dl} {S : Sto} {pos p : Pos}
include B
theorem ev_sortI {ns : List Int} [g : GAt gs "sorted"] [f : Free Z "sorted"] (ha : EV X e δ S (.d (.list (ns.map PyData.int)))) (s1 : St1 X e := by exact rfl) : EV X (.Call (.Name "sorted" p) [e] [] pos) δ S (.d (.list ((isort ns).map PyData.int))) :=
  ew_sorted ha (fun ms h1 h2 => by rw [le_ext h2 isort_asc (h1.trans isort_perm.symm)]; exact ⟨rfl, rfl⟩) s1
end
end K23
namespace K23
open PySem PySem.Spec PyProof.Rows L2
def swapB (sc scope : Scope) (t : Str) (a b : Nat) : Bool := (if sc.kind.isAnnotationScope then ScopeKind.function else sc.kind) == .function && sc.names.lookup t == some .local && a == b && !(scope.names.any fun (n, k) => n == t && (k == .local || k == .cell))
theorem swaps_true {X : Cx} {sc scope : Scope} {elt : Expr} {gens : List Comprehension} {t : Str} {py p : Pos} {l : Nat} (hs : X.env.scope = sc) (h : swapB sc scope t py.line p.line = true) : swapsWith (.ListComp elt gens scope p) (some (.Name t py)) l X.env = pure true := by
  rw [← h, ← hs]
  rfl
end K23
/-! DL, part 14: walking over an own dict -/
namespace K23
open PySem PySem.Spec PyProof.Rows L2
section
variable {Z : Zx} {X : Cx} {N : List Str} {sc scope : Scope} {bs ls : List Bool} {gs : List Str} {k : Nat} [B : Bd Z X N sc bs ls gs k]
variable {a b e elt tg iter : Expr} {δ : Dl} {S : Sto} {pos px : Pos} {q : Addr} {kvs : List (Key × SV)}
/-- the dict at q is read only -/
theorem ew_lock {R : SV → Sto → Prop} (hq : S q = some (.dct kvs)) (h : ∀ o, EW X e δ (supd S q (.lck o kvs)) fun v S' => S' q = some (.lck o kvs) ∧ R v (supd S' q (.dct kvs))) : EW X e δ S R := .mk fun O σ H F Q M s kk => by
  obtain ⟨_, g1, us, rfl, r⟩ := M.sto _ _ hq
  refine to_e (pe_lock pw_e) ⟨q, .dK us, g1, trivial, fun od => ?_⟩
  refine (h (.frz od (.dK us))) O σ _ F _ (M.put hq ⟨rfl, od, us, rfl, r⟩) s fun v S' u H' F' e1 M' r1 z => ?_
  obtain ⟨z1, z2⟩ := z
  obtain ⟨_, g2, rfl, od2, us2, e2, r2⟩ := M'.sto _ _ z1
  refine ⟨g2, ?_⟩
  cases e2
  exact kk v _ u _ F' e1 (M'.put (m := .dct kvs) z1 ⟨us, rfl, r2⟩) r1 z2
theorem iw_keys {o : HO} (h : EV X e δ S (.r q)) (hq : S q = some (.lck o kvs)) : IW X tg e δ S (kvs.map fun kv => keyD kv.1) fun S' => S' q = some (.lck o kvs) := fun O σ H F R M s kk =>
  to_i (pi_keys pw_e) (h O σ H F _ M s fun v S1 u H1 F1 e1 M1 r1 z => by
    obtain ⟨rfl, rfl⟩ := z
    cases r1
    obtain ⟨_, g0, rfl, od, us, rfl, r⟩ := M1.sto _ _ hq
    refine ⟨q, od, rfl, .inl ⟨us, g0, kk _ H1 F1 e1 M1 fun O2 i H2 F2 S2 M2 e2 hG => ?_⟩⟩
    obtain ⟨_, g1, rfl, od', us', e3, r'⟩ := M2.sto _ _ hG
    cases e3
    have l : us.length = kvs.length := Paired.length r'
    rw [List.length_map]
    refine ⟨fun hi => ⟨g1, by omega⟩, fun hi => ⟨g1, by omega⟩, fun v H' hi y => ?_⟩
    obtain ⟨rfl, kx, w, y1, rfl⟩ := y
    have hd := keys_dp (F2 := F2) r'
    obtain ⟨d, d1, d2⟩ := dpAll_get' hd (i := i) (v := kV kx) (by rw [List.getElem?_map, y1]; rfl)
    exact ⟨F2, d, d1, Same.refl _, M2, d2⟩)
include B in
theorem ev_dgetL {o : HO} {kk : Key} {v : SV} (ha : EV X a δ S (.r q)) (hb : EV X b δ S (.d (keyD kk))) (hq : S q = some (.lck o kvs)) (hv : valS kvs kk = some v) (hs : NoSl b := by exact fun _ _ => rfl) : EV X (.Subscript a b pos) δ S v := .mk fun O σ H F Q M s kq =>
  to_e (pe_dget B.hu pw_e pw_e hs) (ha O σ H F _ M s fun w S1 u H1 F1 e1 M1 r1 z => by
    obtain ⟨rfl, rfl⟩ := z
    cases r1
    refine hb O σ H1 F1 _ M1 (s.mono e1) fun w S2 u2 H2 F2 e2 M2 r2 z => ?_
    obtain ⟨rfl, rfl⟩ := z
    obtain ⟨_, g1, rfl, od, us, rfl, r⟩ := M2.sto _ _ hq
    have z := repK_val r kk
    rw [hv] at z
    obtain ⟨y, z1, z2⟩ := z
    rw [dp_key r2]
    exact ⟨q, y, rfl, .inl ⟨us, kk, .inr ⟨od, g1⟩, rfl, z1.symm⟩, (kq.at (e1.trans e2)).rep M2 z2 ⟨rfl, rfl⟩⟩)
include B in
/-- [f k for k in d], d an own dict with int keys -/
theorem ev_lcD {β : Type} {D : β → SV} {m : List (Int × β)} {x : Str} {j : Nat} {F : Int → PyData} (own : List (Str × Nat)) (bs' ls' : List Bool) (gs' : List Str) (ok : blkC N sc scope own = true) (hn : nmB false (relS scope sc) N bs' ls' gs' = true) [n : NAt N ls' x j] (hj : j ∈ own.map (·.2))
    (hi : EV X iter δ S (.r q)) (hi2 : ∀ o, EV X iter δ (supd S q (.lck o (kvT D m))) (.r q)) (hq : S q = some (.dct (kvT D m))) (hz : m.length < sizeLine)
    (hb : ∀ o X1 [Bd Z X1 N (relS scope sc) bs' ls' gs' k] t, t ∈ m.map (·.1) → EV X1 elt ((wipeD δ (own.map (·.2))).set j (some (.d (.int t)))) (supd S q (.lck o (kvT D m))) (.d (F t)))
    (hf : ∀ x, foldedSetIterable iter X.env x = pure x := by intro _; rfl) : EV X (.ListComp elt [⟨.Name x px, iter, [], 0⟩] scope pos) δ S (.d (.list ((m.map (·.1)).map F))) :=
  ev_frz (ew_lock hq fun o => ew_lcMG (D := PyData.int) (ts := m.map (·.1)) own bs' ls' gs' ok hn hj (G := fun S' => S' q = some (.lck o (kvT D m)))
    (by have z := iw_keys (tg := .Name x px) (hi2 o) (supd_same (S := S) (a := q) (o := .lck o (kvT D m)))
        unfold kvT at z
        rw [List.map_map] at z
        rw [List.map_map]
        exact z) supd_same (by rw [List.length_map]; exact hz) (hb o)
    (fun p hp => by
      have hne : q ≠ p := fun z => by rw [← z, supd_same] at hp; cases hp
      have hSp : S p = none := by rw [← hp, supd_ne (Ne.symm hne)]
      refine ⟨by rw [supd_ne hne]; exact supd_same, p, rfl, by rw [supd_ne (Ne.symm hne)]; exact supd_same, fun b u eb => ?_, hSp⟩
      by_cases hbq : b = q
      · subst hbq; rw [supd_same, ← eb, hq]
      · rw [supd_ne hbq, supd_ne (fun z => by rw [z, hSp] at eb; cases eb), supd_ne hbq]; exact eb) hf)
end
end K23
/-! DL, part 15: dict displays -/
namespace K23
open PySem PySem.Spec PyProof.Rows L2
def mergeS (kvs more : List (Key × SV)) : List (Key × SV) := more.foldl (fun acc kv => putS acc kv.1 kv.2) kvs
theorem repK_merge {K : Fg} {F : Hp} : ∀ {ms : List (Key × V)} {more : List (Key × SV)} {us : List (Key × V)} {kvs : List (Key × SV)}, RepK K F ms more → RepK K F us kvs → RepK K F (mergeK us ms) (mergeS kvs more)
  | [], _, _, _, h, h2 => by cases h; exact h2
  | p :: ms, _, us, kvs, h, h2 => by
    cases h with
    | @cons _ q _ qs h t =>
      have e := repK_put h2 q.1 h.2
      rw [← h.1] at e
      have k := repK_merge t e
      rw [h.1] at k
      show RepK K F (mergeK (putK us p.1 p.2) ms) (mergeS (putS kvs q.1 q.2) qs)
      rw [h.1]
      exact k
theorem Mem.takeD {K : Fg} {O H F : Hp} {S : Sto} {D : Addr} {vs : List (Key × V)} {xs : List (Key × SV)} (M : Mem K (upd O D (.dK vs)) H F S) (hO : O D = none) (r : RepK K F vs xs) : Mem K O H F (supd S D (.dct xs)) := by
  obtain ⟨z1, z2, z3⟩ := M.out D _ upd_same
  refine ⟨fun a u e => ?_, M.fr, fun a u e => ?_, fun a u e => ?_⟩
  · have ne : a ≠ D := fun z => by subst z; rw [hO] at e; cases e
    rw [supd_ne ne]
    exact M.out a u (by rw [upd_ne ne]; exact e)
  · by_cases ha : a = D
    · subst ha; exact z2
    · rw [supd_ne ha] at e; exact M.dis a u e
  · by_cases ha : a = D
    · subst ha; rw [supd_same] at e; cases e; exact ⟨_, z1, vs, rfl, r⟩
    · rw [supd_ne ha] at e; exact M.sto a u e
def zipK : List (Option Expr) → List Expr → List (Expr × Expr)
  | some k :: ks, v :: vs => (k, v) :: zipK ks vs
  | _, _ => []
def PD (X : Cx) : List (Expr × Expr) → Dl → Sto → (List (Key × SV) → Sto → Prop) → Prop
  | [], _, S, R => R [] S
  | p :: r, δ, S, R => EW X p.1 δ S fun kx S1 => ∃ kk, kx = .d (keyD kk) ∧ EW X p.2 δ S1 fun v S2 => PD X r δ S2 fun ps S3 => R ((kk, v) :: ps) S3
section
variable {X : Cx} {δ : Dl} {S : Sto} {pos : Pos}
theorem pd_nil {R : List (Key × SV) → Sto → Prop} (h : R [] S) : PD X [] δ S R := h
theorem pd_cons {ke ve : Expr} {r : List (Expr × Expr)} {kk : Key} {v : SV} {R : List (Key × SV) → Sto → Prop} (hk : EV X ke δ S (.d (keyD kk))) (hv : EV X ve δ S v) (h : PD X r δ S fun ps S3 => R ((kk, v) :: ps) S3) : PD X ((ke, ve) :: r) δ S R :=
  hk.use ⟨kk, rfl, hv.use h⟩
theorem pd_consW {ke ve : Expr} {r : List (Expr × Expr)} {kk : Key} {R : List (Key × SV) → Sto → Prop} (hk : EV X ke δ S (.d (keyD kk))) (hv : EW X ve δ S fun v S2 => PD X r δ S2 fun ps S3 => R ((kk, v) :: ps) S3) : PD X ((ke, ve) :: r) δ S R :=
  hk.use ⟨kk, rfl, hv⟩
theorem pd_run : ∀ (kvE : List (Expr × Expr)) {S : Sto} {R : List (Key × SV) → Sto → Prop} {O H F : Hp} {σ : L2.St} {Q : List (V × V) → Hp → Prop}, PD X kvE δ S R → Mem X.K O H F S → Slots X.K F σ δ →
    (∀ ps S' vs H' F', Same F F' → Mem X.K O H' F' S' → RepK X.K F' vs ps → R ps S' → Q (vs.map fun kv => (kV kv.1, kv.2)) H') → tPairs (kvE.map fun p => (wpE X p.1, wpE X p.2)) σ H Q
  | [], S, R, O, H, F, σ, Q, h, M, s, k => k [] S [] H F (Same.refl F) M .nil h
  | p :: r, S, R, O, H, F, σ, Q, h, M, s, k => by
    have h : EW X p.1 δ S fun kx S1 => ∃ kk, kx = .d (keyD kk) ∧ EW X p.2 δ S1 fun v S2 => PD X r δ S2 fun ps S3 => R ((kk, v) :: ps) S3 := h
    refine h O σ H F _ M s fun kx S1 u H1 F1 e1 M1 r1 z => ?_
    obtain ⟨kk, rfl, h2⟩ := z
    have hu := dp_key r1
    subst hu
    refine h2 O σ H1 F1 _ M1 (s.mono e1) fun v S2 u2 H2 F2 e2 M2 r2 h3 => ?_
    refine pd_run r h3 M2 (s.mono (e1.trans e2)) fun ps S' vs H' F' e3 M' r3 z => ?_
    exact k ((kk, v) :: ps) S' ((kk, u2) :: vs) H' F' (e1.trans (e2.trans e3)) M' (.cons ⟨rfl, repV_mono e3 r2⟩ r3) z
theorem pps_all : ∀ (kvE : List (Expr × Expr)), PPs X pos (kvE.map fun p => some p.1) (kvE.map (·.2)) (kvE.map fun p => (wpE X p.1, wpE X p.2))
  | [] => pps_nil
  | p :: r => pps_cons pw_e pw_e (pps_all r)
theorem ew_disp {keys : List (Option Expr)} {values : List Expr} {R : SV → Sto → Prop} (h : PD X (zipK keys values) δ S fun ps S1 => ps.length ≤ 15 ∧ ∀ p, S1 p = none → R (.r p) (supd S1 p (.dct (mergeS [] ps))))
    (hk : keys = (zipK keys values).map (fun p => some p.1) := by rfl) (hv : values = (zipK keys values).map (·.2) := by rfl) (h0 : keys ≠ [] := by exact List.cons_ne_nil _ _) (h15 : keys.length ≤ 15 := by exact Nat.le_of_ble_eq_true rfl) : EW X (.Dict keys values pos) δ S R := .mk fun O σ H F Q M s k => by
  have pp := pps_all (X := X) (pos := pos) (zipK keys values)
  rw [← hk, ← hv] at pp
  refine to_e (pe_disp pp (by rw [hk, List.all_map]; exact List.all_eq_true.mpr fun _ _ => rfl) (by rw [hk, List.length_map]; conv => rhs; rw [hv, List.length_map]) h0 h15) fun p hp => ?_
  have hO := M.nO hp
  refine pd_run _ h (M.addO hp (.dK [])) s fun ps S' vs H' F' e M' r z => ?_
  obtain ⟨z0, z⟩ := z
  obtain ⟨q1, q2, q3⟩ := M'.out p _ upd_same
  refine ⟨q1, vs, rfl, by rw [Paired.length r]; exact z0, ?_⟩
  exact k (.r p) _ (.ref p) _ F' e ((M'.putO (.dK (mergeK [] vs))).takeD hO (repK_merge r .nil)) rfl (z p q3)
end
end K23
/-! the head, part 1: what stands behind the top, as facts -/
namespace K23
open PySem PySem.Spec PyProof.Rows L2
def top (i : Nat) : Stmt := PySem.Challenge.pw_restitch_k23_tables_that_hold.main.body.getD i (.Pass ⟨0, 0, 0, 0⟩)
/-! constants of the written part as plain data -/
mutual
def dpB (K : Fg) : PyData → Value → Bool
  | .none, .none => true
  | .bool b, .bool c => b == c
  | .int i, .int j _ => decide (i = j)
  | .str x, .str y _ => decide (x = y)
  | .tuple ds, .ref a => (match K.lookup a with
    | some ⟨.type c, none, .seq its _, _⟩ => decide (c = "tuple") && (decide (its.size ≤ sizeLine) && dpAllB K ds its.toList)
    | _ => false)
  | _, _ => false
def dpAllB (K : Fg) : List PyData → List Value → Bool
  | [], [] => true
  | d :: ds, u :: us => dpB K d u && dpAllB K ds us
  | _, _ => false
end
theorem tup_look {K : Fg} {a : Addr} {ds : List PyData} (h : dpB K (.tuple ds) (.ref a) = true) : ∃ its n sl, K.lookup a = some ⟨.type "tuple", none, .seq its n, sl⟩ ∧ its.size ≤ sizeLine ∧ dpAllB K ds its.toList = true := by
  unfold dpB at h
  split at h
  · rename_i c its n sl q
    obtain ⟨h1, h2⟩ := Bool.and_eq_true_iff.mp h
    obtain ⟨h3, h4⟩ := Bool.and_eq_true_iff.mp h2
    have e : c = "tuple" := of_decide_eq_true h1
    subst e
    exact ⟨its, n, sl, q, of_decide_eq_true h3, h4⟩
  · cases h
mutual
theorem dpB_ok {K : Fg} : ∀ (d : PyData) (u : Value), dpB K d u = true → ∃ v, RelV v u ∧ ∀ F, Dp K F v d
  | .none, u, h => by
    cases u with
    | none => exact ⟨.non, rfl, fun _ => .non⟩
    | _ => cases h
  | .bool b, u, h => by
    cases u with
    | bool c =>
      have e : b = c := eq_of_beq h
      subst e
      exact ⟨.bl b, rfl, fun _ => .bl b⟩
    | _ => cases h
  | .int i, u, h => by
    cases u with
    | int j t =>
      have e : i = j := of_decide_eq_true h
      subst e
      exact ⟨.int i, ⟨t, rfl⟩, fun _ => .int i⟩
    | _ => cases h
  | .str i, u, h => by
    cases u with
    | str j t =>
      have e : i = j := of_decide_eq_true h
      subst e
      exact ⟨.str i, ⟨t, rfl⟩, fun _ => .str i⟩
    | _ => cases h
  | .tuple ds, u, h => by
    cases u with
    | ref a =>
      obtain ⟨its, n, sl, q, hz, h4⟩ := tup_look h
      obtain ⟨vs, r, hd⟩ := dpAllB_ok ds its.toList h4
      exact ⟨.ref a, rfl, fun F => .tup (.inr ⟨_, its, n, q, rfl, rfl, hz, r⟩) (hd F)⟩
    | _ => cases h
  | .list _, u, h => by cases u <;> cases h
  | .dict _, u, h => by cases u <;> cases h
theorem dpAllB_ok {K : Fg} : ∀ (ds : List PyData) (us : List Value), dpAllB K ds us = true → ∃ vs, Vals vs us ∧ ∀ F, DpAll K F vs ds
  | [], [], _ => ⟨[], .nil, fun _ => .nil⟩
  | [], _ :: _, h => by cases h
  | _ :: _, [], h => by cases h
  | d :: ds, u :: us, h => by
    obtain ⟨h1, h2⟩ := Bool.and_eq_true_iff.mp (show (dpB K d u && dpAllB K ds us) = true from h)
    obtain ⟨v, r, f⟩ := dpB_ok d u h1
    obtain ⟨vs, rs, fs⟩ := dpAllB_ok ds us h2
    exact ⟨v :: vs, .cons r rs, fun F => .cons (f F) (fs F)⟩
end
/-- the module's name x holds the data d -/
def cstB (K : Fg) (q : Str × PyData) : Bool := match PySem.W.nsIn K mainGlobals q.1 with
  | some (some u) => dpB K q.2 u
  | _ => false
def d_encode : He.DefD := ⟨("encode", none), "encode", "encode", defArgs (top 5), defBody (top 5), defScope (top 5), [], []⟩
def d_signed_field : He.DefD := ⟨("signed_field", none), "signed_field", "signed_field", defArgs (top 6), defBody (top 6), defScope (top 6), [], []⟩
def d_fields : He.DefD := ⟨("fields", none), "fields", "fields", defArgs (top 7), defBody (top 7), defScope (top 7), [], []⟩
def d_decode : He.DefD := ⟨("decode", none), "decode", "decode", defArgs (top 8), defBody (top 8), defScope (top 8), [], []⟩
def d_find_segment : He.DefD := ⟨("find_segment", none), "find_segment", "find_segment", defArgs (top 10), defBody (top 10), defScope (top 10), [], []⟩
def d_can_load : He.DefD := ⟨("can_load", none), "can_load", "can_load", defArgs (top 11), defBody (top 11), defScope (top 11), [], []⟩
def d_can_fetch : He.DefD := ⟨("can_fetch", none), "can_fetch", "can_fetch", defArgs (top 12), defBody (top 12), defScope (top 12), [], []⟩
def d_load_word : He.DefD := ⟨("load_word", none), "load_word", "load_word", defArgs (top 13), defBody (top 13), defScope (top 13), [], []⟩
def d_first_memory : He.DefD := ⟨("first_memory", none), "first_memory", "first_memory", defArgs (top 14), defBody (top 14), defScope (top 14), [], []⟩
def d_word_at : He.DefD := ⟨("word_at", none), "word_at", "word_at", defArgs (top 15), defBody (top 15), defScope (top 15), [], []⟩
def d_signed : He.DefD := ⟨("signed", none), "signed", "signed", defArgs (top 17), defBody (top 17), defScope (top 17), [], []⟩
def d_compute : He.DefD := ⟨("compute", none), "compute", "compute", defArgs (top 18), defBody (top 18), defScope (top 18), [], []⟩
def d_compute_rest : He.DefD := ⟨("compute_rest", none), "compute_rest", "compute_rest", defArgs (top 19), defBody (top 19), defScope (top 19), [], []⟩
def d_holds : He.DefD := ⟨("holds", none), "holds", "holds", defArgs (top 20), defBody (top 20), defScope (top 20), [], []⟩
def d_bounds : He.DefD := ⟨("bounds", none), "bounds", "bounds", defArgs (top 24), defBody (top 24), defScope (top 24), [], []⟩
def d_of_bounds : He.DefD := ⟨("of_bounds", none), "of_bounds", "of_bounds", defArgs (top 25), defBody (top 25), defScope (top 25), [], []⟩
def d_of_words : He.DefD := ⟨("of_words", none), "of_words", "of_words", defArgs (top 26), defBody (top 26), defScope (top 26), [], []⟩
def d_is_row : He.DefD := ⟨("is_row", none), "is_row", "is_row", defArgs (top 27), defBody (top 27), defScope (top 27), [], []⟩
def d_only_word : He.DefD := ⟨("only_word", none), "only_word", "only_word", defArgs (top 28), defBody (top 28), defScope (top 28), [], []⟩
def d_allows : He.DefD := ⟨("allows", none), "allows", "allows", defArgs (top 29), defBody (top 29), defScope (top 29), [], []⟩
def d_within : He.DefD := ⟨("within", none), "within", "within", defArgs (top 30), defBody (top 30), defScope (top 30), [], []⟩
def d_meet : He.DefD := ⟨("meet", none), "meet", "meet", defArgs (top 31), defBody (top 31), defScope (top 31), [], []⟩
def d_join_facts : He.DefD := ⟨("join_facts", none), "join_facts", "join_facts", defArgs (top 32), defBody (top 32), defScope (top 32), [], []⟩
def d_result_of_rows : He.DefD := ⟨("result_of_rows", none), "result_of_rows", "result_of_rows", defArgs (top 33), defBody (top 33), defScope (top 33), [], []⟩
def d_low_mask : He.DefD := ⟨("low_mask", none), "low_mask", "low_mask", defArgs (top 34), defBody (top 34), defScope (top 34), [], []⟩
def d_parts_of : He.DefD := ⟨("parts_of", none), "parts_of", "parts_of", defArgs (top 35), defBody (top 35), defScope (top 35), [], []⟩
def d_ones_of : He.DefD := ⟨("ones_of", none), "ones_of", "ones_of", defArgs (top 36), defBody (top 36), defScope (top 36), [], []⟩
def d_result_by_word : He.DefD := ⟨("result_by_word", none), "result_by_word", "result_by_word", defArgs (top 37), defBody (top 37), defScope (top 37), [], []⟩
def d_result : He.DefD := ⟨("result", none), "result", "result", defArgs (top 38), defBody (top 38), defScope (top 38), [], []⟩
def d_decided : He.DefD := ⟨("decided", none), "decided", "decided", defArgs (top 39), defBody (top 39), defScope (top 39), [], []⟩
def d_wrapped : He.DefD := ⟨("wrapped", none), "wrapped", "wrapped", defArgs (top 46), defBody (top 46), defScope (top 46), [], []⟩
def d_is_place : He.DefD := ⟨("is_place", none), "is_place", "is_place", defArgs (top 47), defBody (top 47), defScope (top 47), [], []⟩
def d_places : He.DefD := ⟨("places", none), "places", "places", defArgs (top 48), defBody (top 48), defScope (top 48), [], []⟩
def d_instruction_at : He.DefD := ⟨("instruction_at", none), "instruction_at", "instruction_at", defArgs (top 49), defBody (top 49), defScope (top 49), [], []⟩
def d_one : He.DefD := ⟨("one", none), "one", "one", defArgs (top 50), defBody (top 50), defScope (top 50), [], []⟩
def d_with_fact : He.DefD := ⟨("with_fact", none), "with_fact", "with_fact", defArgs (top 51), defBody (top 51), defScope (top 51), [], []⟩
def d_count_of : He.DefD := ⟨("count_of", none), "count_of", "count_of", defArgs (top 52), defBody (top 52), defScope (top 52), [], []⟩
def d_loaded : He.DefD := ⟨("loaded", none), "loaded", "loaded", defArgs (top 53), defBody (top 53), defScope (top 53), [], []⟩
def d_is_empty : He.DefD := ⟨("is_empty", none), "is_empty", "is_empty", defArgs (top 54), defBody (top 54), defScope (top 54), [], []⟩
def d_without : He.DefD := ⟨("without", none), "without", "without", defArgs (top 55), defBody (top 55), defScope (top 55), [], []⟩
def d_below : He.DefD := ⟨("below", none), "below", "below", defArgs (top 56), defBody (top 56), defScope (top 56), [], []⟩
def d_refined : He.DefD := ⟨("refined", none), "refined", "refined", defArgs (top 57), defBody (top 57), defScope (top 57), [], []⟩
def d_branch_ways : He.DefD := ⟨("branch_ways", none), "branch_ways", "branch_ways", defArgs (top 58), defBody (top 58), defScope (top 58), [], []⟩
def d_allowed_targets : He.DefD := ⟨("allowed_targets", none), "allowed_targets", "allowed_targets", defArgs (top 59), defBody (top 59), defScope (top 59), [], []⟩
def d_memory_ways : He.DefD := ⟨("memory_ways", none), "memory_ways", "memory_ways", defArgs (top 60), defBody (top 60), defScope (top 60), [], []⟩
def d_alu_fact : He.DefD := ⟨("alu_fact", none), "alu_fact", "alu_fact", defArgs (top 61), defBody (top 61), defScope (top 61), [], []⟩
def d_joined : He.DefD := ⟨("joined", none), "joined", "joined", defArgs (top 62), defBody (top 62), defScope (top 62), [], []⟩
def d_ways : He.DefD := ⟨("ways", none), "ways", "ways", defArgs (top 63), defBody (top 63), defScope (top 63), [], []⟩
def d_plain : He.DefD := ⟨("plain", none), "plain", "plain", defArgs (top 66), defBody (top 66), defScope (top 66), [], []⟩
def d_facts_at : He.DefD := ⟨("facts_at", none), "facts_at", "facts_at", defArgs (top 67), defBody (top 67), defScope (top 67), [], []⟩
def d_is_word : He.DefD := ⟨("is_word", none), "is_word", "is_word", defArgs (top 68), defBody (top 68), defScope (top 68), [], []⟩
def d_ascends : He.DefD := ⟨("ascends", none), "ascends", "ascends", defArgs (top 69), defBody (top 69), defScope (top 69), [], []⟩
def d_is_fact : He.DefD := ⟨("is_fact", none), "is_fact", "is_fact", defArgs (top 70), defBody (top 70), defScope (top 70), [], []⟩
def d_is_table : He.DefD := ⟨("is_table", none), "is_table", "is_table", defArgs (top 71), defBody (top 71), defScope (top 71), [], []⟩
def d_facts_within : He.DefD := ⟨("facts_within", none), "facts_within", "facts_within", defArgs (top 72), defBody (top 72), defScope (top 72), [], []⟩
def d_holds_table : He.DefD := ⟨("holds_table", none), "holds_table", "holds_table", defArgs (top 73), defBody (top 73), defScope (top 73), [], []⟩
def d_widened : He.DefD := ⟨("widened", none), "widened", "widened", defArgs (top 78), defBody (top 78), defScope (top 78), [], []⟩
def d_united : He.DefD := ⟨("united", none), "united", "united", defArgs (top 79), defBody (top 79), defScope (top 79), [], []⟩
def d_solve : He.DefD := ⟨("solve", none), "solve", "solve", defArgs (top 80), defBody (top 80), defScope (top 80), [], []⟩
def d__law_draw : He.DefD := ⟨("_law_draw", none), "_law_draw", "_law_draw", defArgs (top 82), defBody (top 82), defScope (top 82), [], []⟩
def d__law_take : He.DefD := ⟨("_law_take", none), "_law_take", "_law_take", defArgs (top 83), defBody (top 83), defScope (top 83), [], []⟩
def d__law_register : He.DefD := ⟨("_law_register", none), "_law_register", "_law_register", defArgs (top 84), defBody (top 84), defScope (top 84), [], []⟩
def d__law_put : He.DefD := ⟨("_law_put", none), "_law_put", "_law_put", defArgs (top 85), defBody (top 85), defScope (top 85), [], []⟩
def d__law_alu : He.DefD := ⟨("_law_alu", none), "_law_alu", "_law_alu", defArgs (top 86), defBody (top 86), defScope (top 86), [], []⟩
def d__law_access : He.DefD := ⟨("_law_access", none), "_law_access", "_law_access", defArgs (top 87), defBody (top 87), defScope (top 87), [], []⟩
def d__law_branch : He.DefD := ⟨("_law_branch", none), "_law_branch", "_law_branch", defArgs (top 88), defBody (top 88), defScope (top 88), [], []⟩
def d__law_loop : He.DefD := ⟨("_law_loop", none), "_law_loop", "_law_loop", defArgs (top 89), defBody (top 89), defScope (top 89), [], []⟩
def d__law_jump : He.DefD := ⟨("_law_jump", none), "_law_jump", "_law_jump", defArgs (top 90), defBody (top 90), defScope (top 90), [], []⟩
def d__law_some : He.DefD := ⟨("_law_some", none), "_law_some", "_law_some", defArgs (top 91), defBody (top 91), defScope (top 91), [], []⟩
def d__law_image : He.DefD := ⟨("_law_image", none), "_law_image", "_law_image", defArgs (top 92), defBody (top 92), defScope (top 92), [], []⟩
def d__law_bytes : He.DefD := ⟨("_law_bytes", none), "_law_bytes", "_law_bytes", defArgs (top 93), defBody (top 93), defScope (top 93), [], []⟩
def d__law_closed : He.DefD := ⟨("_law_closed", none), "_law_closed", "_law_closed", defArgs (top 94), defBody (top 94), defScope (top 94), [], []⟩
def d__law_other_fact : He.DefD := ⟨("_law_other_fact", none), "_law_other_fact", "_law_other_fact", defArgs (top 95), defBody (top 95), defScope (top 95), [], []⟩
def d__law_forgotten : He.DefD := ⟨("_law_forgotten", none), "_law_forgotten", "_law_forgotten", defArgs (top 96), defBody (top 96), defScope (top 96), [], []⟩
def d__law_bent : He.DefD := ⟨("_law_bent", none), "_law_bent", "_law_bent", defArgs (top 97), defBody (top 97), defScope (top 97), [], []⟩
def d_law : He.DefD := ⟨("law", none), "law", "law", defArgs (top 98), defBody (top 98), defScope (top 98), [], []⟩
def fn0 : List He.DefD := [d_encode, d_signed_field, d_fields, d_decode, d_find_segment, d_can_load, d_can_fetch, d_load_word, d_first_memory, d_word_at, d_signed, d_compute, d_compute_rest, d_holds, d_bounds, d_of_bounds, d_of_words, d_is_row, d_only_word, d_allows, d_within, d_meet, d_join_facts, d_result_of_rows, d_low_mask, d_parts_of, d_ones_of, d_result_by_word, d_result, d_decided]
def fn1 : List He.DefD := [d_wrapped, d_is_place, d_places, d_instruction_at, d_one, d_with_fact, d_count_of, d_loaded, d_is_empty, d_without, d_below, d_refined, d_branch_ways, d_allowed_targets, d_memory_ways, d_alu_fact, d_joined, d_ways, d_plain, d_facts_at, d_is_word, d_ascends, d_is_fact, d_is_table, d_facts_within, d_holds_table, d_widened, d_united, d_solve, d__law_draw]
def fn2 : List He.DefD := [d__law_take, d__law_register, d__law_put, d__law_alu, d__law_access, d__law_branch, d__law_loop, d__law_jump, d__law_some, d__law_image, d__law_bytes, d__law_closed, d__law_other_fact, d__law_forgotten, d__law_bent, d_law]
def fns : List He.DefD := fn0 ++ fn1 ++ fn2
def fa0 : List He.Fa := [.glo "encode", .glo "signed_field", .glo "fields", .glo "decode", .glo "find_segment", .glo "can_load", .glo "can_fetch", .glo "load_word", .glo "first_memory", .glo "word_at", .glo "signed", .glo "compute", .glo "compute_rest", .glo "holds", .glo "bounds", .glo "of_bounds", .glo "of_words", .glo "is_row", .glo "only_word", .glo "allows", .glo "within", .glo "meet", .glo "join_facts", .glo "result_of_rows", .glo "low_mask", .glo "parts_of", .glo "ones_of", .glo "result_by_word", .glo "result", .glo "decided"]
def fa1 : List He.Fa := [.glo "wrapped", .glo "is_place", .glo "places", .glo "instruction_at", .glo "one", .glo "with_fact", .glo "count_of", .glo "loaded", .glo "is_empty", .glo "without", .glo "below", .glo "refined", .glo "branch_ways", .glo "allowed_targets", .glo "memory_ways", .glo "alu_fact", .glo "joined", .glo "ways", .glo "plain", .glo "facts_at", .glo "is_word", .glo "ascends", .glo "is_fact", .glo "is_table", .glo "facts_within", .glo "holds_table", .glo "widened", .glo "united", .glo "solve", .glo "_law_draw"]
def fa2 : List He.Fa := [.glo "_law_take", .glo "_law_register", .glo "_law_put", .glo "_law_alu", .glo "_law_access", .glo "_law_branch", .glo "_law_loop", .glo "_law_jump", .glo "_law_some", .glo "_law_image", .glo "_law_bytes", .glo "_law_closed", .glo "_law_other_fact", .glo "_law_forgotten", .glo "_law_bent", .glo "law", .free "abs", .free "all", .free "bool", .free "int", .free "isinstance", .free "len", .free "list", .free "max", .free "min", .free "range", .free "reversed", .free "set", .free "sorted", .free "tuple"]
def fa3 : List He.Fa := [.free "zip", .glo "PLAIN_OF"]
def fas : List He.Fa := fa0 ++ fa1 ++ fa2 ++ fa3
def c_ALU_codes : PyData := .tuple [.str "add", .str "sub", .str "mul", .str "and", .str "or", .str "xor", .str "shl", .str "shr", .str "sar", .str "slt", .str "sltu", .str "divu", .str "remu"]
def c_IMMEDIATE : PyData := .tuple [.str "addi", .str "andi", .str "ori", .str "xori", .str "shli", .str "shri", .str "sari", .str "slti"]
def c_OPS : PyData := .tuple [.str "add", .str "sub", .str "mul", .str "and", .str "or", .str "xor", .str "shl", .str "shr", .str "sar", .str "slt", .str "sltu", .str "divu", .str "remu", .str "addi", .str "andi", .str "ori", .str "xori", .str "shli", .str "shri", .str "sari", .str "slti", .str "lui", .str "lw", .str "lb", .str "lbu", .str "sw", .str "sb", .str "beq", .str "bne", .str "blt", .str "bge", .str "bltu", .str "bgeu", .str "jal", .str "jalr", .str "get", .str "put", .str "exit"]
def c_WORD : PyData := .int 4294967296
def c_TOP : PyData := .int 4294967295
def c_MOST : PyData := .int 16
def c_ALU_ways : PyData := .tuple [.str "add", .str "sub", .str "mul", .str "and", .str "or", .str "xor", .str "shl", .str "shr", .str "sar", .str "slt", .str "sltu", .str "divu", .str "remu"]
def plainOf : List (Str × Str) := [("addi", "add"), ("andi", "and"), ("ori", "or"), ("xori", "xor"), ("shli", "shl"), ("shri", "shr"), ("sari", "sar"), ("slti", "slt")]
def c_BRANCHES : PyData := .tuple [.str "beq", .str "bne", .str "blt", .str "bge", .str "bltu", .str "bgeu"]
def c_LOADS : PyData := .tuple [.str "lw", .str "lb", .str "lbu"]
def c_STORES : PyData := .tuple [.str "sw", .str "sb"]
def c_NOTHING : PyData := .tuple [.tuple [.str "words", .tuple [.int 0]], .none, .none, .none, .none, .none, .none, .none, .none, .none, .none, .none, .none, .none, .none, .none]
def c_START : PyData := .tuple [.tuple [.str "words", .tuple [.int 0]], .tuple [.str "words", .tuple [.int 0]], .tuple [.str "words", .tuple [.int 0]], .tuple [.str "words", .tuple [.int 0]], .tuple [.str "words", .tuple [.int 0]], .tuple [.str "words", .tuple [.int 0]], .tuple [.str "words", .tuple [.int 0]], .tuple [.str "words", .tuple [.int 0]], .tuple [.str "words", .tuple [.int 0]], .tuple [.str "words", .tuple [.int 0]], .tuple [.str "words", .tuple [.int 0]], .tuple [.str "words", .tuple [.int 0]], .tuple [.str "words", .tuple [.int 0]], .tuple [.str "words", .tuple [.int 0]], .tuple [.str "words", .tuple [.int 0]], .tuple [.str "words", .tuple [.int 0]]]
def c_MOST_STEPS : PyData := .int 100000
def c_PATIENCE : PyData := .int 7
def csts : List (Str × PyData) := [("ALU_codes", c_ALU_codes), ("IMMEDIATE", c_IMMEDIATE), ("OPS", c_OPS), ("WORD", c_WORD), ("TOP", c_TOP), ("MOST", c_MOST), ("ALU_ways", c_ALU_ways), ("BRANCHES", c_BRANCHES), ("LOADS", c_LOADS), ("STORES", c_STORES), ("NOTHING", c_NOTHING), ("START", c_START), ("MOST_STEPS", c_MOST_STEPS), ("PATIENCE", c_PATIENCE)]
def tabs : List He.Tab := [(fun K => He.ga K "PLAIN_OF", plainOf.map (·.1))]
def exB (K : Fg) : Bool := csts.all (cstB K) && He.valsB K (He.ga K "PLAIN_OF") (plainOf.map fun q => (q.1, .str q.2))
abbrev AlX : Type := He.AlT × Bool
def obsX (g : Addr → Option Obj) : AlX := (He.obsTG 4 fas fns tabs g, exB (He.frG g (He.asD g 4)))
def SaysX (w : World) (K : Fg) : Prop := He.SaysT fas fns tabs w K ∧ exB K = true
abbrev hk : PySem.W.Hook where
  α := AlX
  obs := fun s => obsX s.heap.get?
  val := fun w => (He.valT fns tabs w, true)
  says := fun w h => ∃ K : Fg, K.In h ∧ SaysX w K
  of := fun _ _ e => ⟨_, He.frG_in, congrArg Prod.fst e, congrArg Prod.snd e⟩
  keeps := fun _ _ _ ⟨K, hK, c⟩ k => ⟨K, PySem.W.Frag.In.keeps hK k, c⟩
/-- what the defs lean on: the written part tells of the text's defs, constants and free names -/
class W0 (Z : Zx) : Prop where
  says : SaysX Z.w Z.K
  kin : ∃ h : Heap, Z.K.In h ∧ h.Ns mainGlobals Z.mg
section
variable {Z : Zx} [W : W0 Z]
theorem df_of {x : Str} {st : Stmt} (i j : Nat) (hd : fns[i]? = some ⟨(x, none), x, x, defArgs st, defBody st, defScope st, [], []⟩) (hf : fas[j]? = some (.glo x)) : ∃ f fd, FunD Z.K x x (defArgs st) (defBody st) (defScope st) [] [] f fd ∧ Z.mg x = some (.ref f) := by
  obtain ⟨h, KX, G⟩ := W.kin
  obtain ⟨fd, F⟩ := W.says.1.d.def_ i hd
  exact ⟨_, fd, F, He.glo_ok KX G (W.says.1.d.fact j hf)⟩
theorem free_of {x : Str} (j : Nat) (hf : fas[j]? = some (.free x)) : Free Z x := by
  obtain ⟨h, KX, G⟩ := W.kin
  exact ⟨He.free_ok KX G (W.says.1.d.fact j hf)⟩
theorem cst_raw {x : Str} {d : PyData} (j : Nat) (hf : csts[j]? = some (x, d)) : ∃ u, Z.mg x = some u ∧ dpB Z.K d u = true := by
  obtain ⟨h, KX, G⟩ := W.kin
  have c := List.all_eq_true.mp (Bool.and_eq_true_iff.mp W.says.2).1 _ (List.mem_of_getElem? hf)
  unfold cstB at c
  split at c
  · rename_i u e
    exact ⟨u, PySem.W.mg_of KX G e, c⟩
  · cases c
theorem cst_of {x : Str} {d : PyData} (j : Nat) (hf : csts[j]? = some (x, d)) : Cst Z x d := by
  obtain ⟨u, e, c⟩ := cst_raw (Z := Z) j hf
  obtain ⟨v, r, f⟩ := dpB_ok d u c
  exact ⟨v, u, e, r, f⟩
theorem plain_of {x y : Str} (j : Nat) (hf : plainOf[j]? = some (x, y)) : Z.mg "PLAIN_OF" = some (.ref (He.ga Z.K "PLAIN_OF")) ∧ KDct Z.K Z.w (He.ga Z.K "PLAIN_OF") x (.str y) := by
  obtain ⟨h, KX, G⟩ := W.kin
  refine ⟨He.glo_ok KX G (W.says.1.d.fact 91 rfl), ?_⟩
  obtain ⟨es, n, D⟩ := W.says.1.tab 0 (t := (fun K => He.ga K "PLAIN_OF", plainOf.map (·.1))) rfl
  obtain ⟨u, h1, h2⟩ := He.valsB_ok (Bool.and_eq_true_iff.mp W.says.2).2 (q := (x, .str y)) (List.mem_map.mpr ⟨(x, y), List.mem_of_getElem? hf, rfl⟩)
  exact ⟨es, n, u, D.at_, D.lit, h1, h2⟩
instance df_encode : Df Z "encode" (top 5) := ⟨df_of 0 0 rfl rfl⟩
instance df_signed_field : Df Z "signed_field" (top 6) := ⟨df_of 1 1 rfl rfl⟩
instance df_fields : Df Z "fields" (top 7) := ⟨df_of 2 2 rfl rfl⟩
instance df_decode : Df Z "decode" (top 8) := ⟨df_of 3 3 rfl rfl⟩
instance df_find_segment : Df Z "find_segment" (top 10) := ⟨df_of 4 4 rfl rfl⟩
instance df_can_load : Df Z "can_load" (top 11) := ⟨df_of 5 5 rfl rfl⟩
instance df_can_fetch : Df Z "can_fetch" (top 12) := ⟨df_of 6 6 rfl rfl⟩
instance df_load_word : Df Z "load_word" (top 13) := ⟨df_of 7 7 rfl rfl⟩
instance df_first_memory : Df Z "first_memory" (top 14) := ⟨df_of 8 8 rfl rfl⟩
instance df_word_at : Df Z "word_at" (top 15) := ⟨df_of 9 9 rfl rfl⟩
instance df_signed : Df Z "signed" (top 17) := ⟨df_of 10 10 rfl rfl⟩
instance df_compute : Df Z "compute" (top 18) := ⟨df_of 11 11 rfl rfl⟩
instance df_compute_rest : Df Z "compute_rest" (top 19) := ⟨df_of 12 12 rfl rfl⟩
instance df_holds : Df Z "holds" (top 20) := ⟨df_of 13 13 rfl rfl⟩
instance df_bounds : Df Z "bounds" (top 24) := ⟨df_of 14 14 rfl rfl⟩
instance df_of_bounds : Df Z "of_bounds" (top 25) := ⟨df_of 15 15 rfl rfl⟩
instance df_of_words : Df Z "of_words" (top 26) := ⟨df_of 16 16 rfl rfl⟩
instance df_is_row : Df Z "is_row" (top 27) := ⟨df_of 17 17 rfl rfl⟩
instance df_only_word : Df Z "only_word" (top 28) := ⟨df_of 18 18 rfl rfl⟩
instance df_allows : Df Z "allows" (top 29) := ⟨df_of 19 19 rfl rfl⟩
instance df_within : Df Z "within" (top 30) := ⟨df_of 20 20 rfl rfl⟩
instance df_meet : Df Z "meet" (top 31) := ⟨df_of 21 21 rfl rfl⟩
instance df_join_facts : Df Z "join_facts" (top 32) := ⟨df_of 22 22 rfl rfl⟩
instance df_result_of_rows : Df Z "result_of_rows" (top 33) := ⟨df_of 23 23 rfl rfl⟩
instance df_low_mask : Df Z "low_mask" (top 34) := ⟨df_of 24 24 rfl rfl⟩
instance df_parts_of : Df Z "parts_of" (top 35) := ⟨df_of 25 25 rfl rfl⟩
instance df_ones_of : Df Z "ones_of" (top 36) := ⟨df_of 26 26 rfl rfl⟩
instance df_result_by_word : Df Z "result_by_word" (top 37) := ⟨df_of 27 27 rfl rfl⟩
instance df_result : Df Z "result" (top 38) := ⟨df_of 28 28 rfl rfl⟩
instance df_decided : Df Z "decided" (top 39) := ⟨df_of 29 29 rfl rfl⟩
instance df_wrapped : Df Z "wrapped" (top 46) := ⟨df_of 30 30 rfl rfl⟩
instance df_is_place : Df Z "is_place" (top 47) := ⟨df_of 31 31 rfl rfl⟩
instance df_places : Df Z "places" (top 48) := ⟨df_of 32 32 rfl rfl⟩
instance df_instruction_at : Df Z "instruction_at" (top 49) := ⟨df_of 33 33 rfl rfl⟩
instance df_one : Df Z "one" (top 50) := ⟨df_of 34 34 rfl rfl⟩
instance df_with_fact : Df Z "with_fact" (top 51) := ⟨df_of 35 35 rfl rfl⟩
instance df_count_of : Df Z "count_of" (top 52) := ⟨df_of 36 36 rfl rfl⟩
instance df_loaded : Df Z "loaded" (top 53) := ⟨df_of 37 37 rfl rfl⟩
instance df_is_empty : Df Z "is_empty" (top 54) := ⟨df_of 38 38 rfl rfl⟩
instance df_without : Df Z "without" (top 55) := ⟨df_of 39 39 rfl rfl⟩
instance df_below : Df Z "below" (top 56) := ⟨df_of 40 40 rfl rfl⟩
instance df_refined : Df Z "refined" (top 57) := ⟨df_of 41 41 rfl rfl⟩
instance df_branch_ways : Df Z "branch_ways" (top 58) := ⟨df_of 42 42 rfl rfl⟩
instance df_allowed_targets : Df Z "allowed_targets" (top 59) := ⟨df_of 43 43 rfl rfl⟩
instance df_memory_ways : Df Z "memory_ways" (top 60) := ⟨df_of 44 44 rfl rfl⟩
instance df_alu_fact : Df Z "alu_fact" (top 61) := ⟨df_of 45 45 rfl rfl⟩
instance df_joined : Df Z "joined" (top 62) := ⟨df_of 46 46 rfl rfl⟩
instance df_ways : Df Z "ways" (top 63) := ⟨df_of 47 47 rfl rfl⟩
instance df_plain : Df Z "plain" (top 66) := ⟨df_of 48 48 rfl rfl⟩
instance df_facts_at : Df Z "facts_at" (top 67) := ⟨df_of 49 49 rfl rfl⟩
instance df_is_word : Df Z "is_word" (top 68) := ⟨df_of 50 50 rfl rfl⟩
instance df_ascends : Df Z "ascends" (top 69) := ⟨df_of 51 51 rfl rfl⟩
instance df_is_fact : Df Z "is_fact" (top 70) := ⟨df_of 52 52 rfl rfl⟩
instance df_is_table : Df Z "is_table" (top 71) := ⟨df_of 53 53 rfl rfl⟩
instance df_facts_within : Df Z "facts_within" (top 72) := ⟨df_of 54 54 rfl rfl⟩
instance df_holds_table : Df Z "holds_table" (top 73) := ⟨df_of 55 55 rfl rfl⟩
instance df_widened : Df Z "widened" (top 78) := ⟨df_of 56 56 rfl rfl⟩
instance df_united : Df Z "united" (top 79) := ⟨df_of 57 57 rfl rfl⟩
instance df_solve : Df Z "solve" (top 80) := ⟨df_of 58 58 rfl rfl⟩
instance df__law_draw : Df Z "_law_draw" (top 82) := ⟨df_of 59 59 rfl rfl⟩
instance df__law_take : Df Z "_law_take" (top 83) := ⟨df_of 60 60 rfl rfl⟩
instance df__law_register : Df Z "_law_register" (top 84) := ⟨df_of 61 61 rfl rfl⟩
instance df__law_put : Df Z "_law_put" (top 85) := ⟨df_of 62 62 rfl rfl⟩
instance df__law_alu : Df Z "_law_alu" (top 86) := ⟨df_of 63 63 rfl rfl⟩
instance df__law_access : Df Z "_law_access" (top 87) := ⟨df_of 64 64 rfl rfl⟩
instance df__law_branch : Df Z "_law_branch" (top 88) := ⟨df_of 65 65 rfl rfl⟩
instance df__law_loop : Df Z "_law_loop" (top 89) := ⟨df_of 66 66 rfl rfl⟩
instance df__law_jump : Df Z "_law_jump" (top 90) := ⟨df_of 67 67 rfl rfl⟩
instance df__law_some : Df Z "_law_some" (top 91) := ⟨df_of 68 68 rfl rfl⟩
instance df__law_image : Df Z "_law_image" (top 92) := ⟨df_of 69 69 rfl rfl⟩
instance df__law_bytes : Df Z "_law_bytes" (top 93) := ⟨df_of 70 70 rfl rfl⟩
instance df__law_closed : Df Z "_law_closed" (top 94) := ⟨df_of 71 71 rfl rfl⟩
instance df__law_other_fact : Df Z "_law_other_fact" (top 95) := ⟨df_of 72 72 rfl rfl⟩
instance df__law_forgotten : Df Z "_law_forgotten" (top 96) := ⟨df_of 73 73 rfl rfl⟩
instance df__law_bent : Df Z "_law_bent" (top 97) := ⟨df_of 74 74 rfl rfl⟩
instance df_law : Df Z "law" (top 98) := ⟨df_of 75 75 rfl rfl⟩
instance fr_abs : Free Z "abs" := free_of 76 rfl
instance fr_all : Free Z "all" := free_of 77 rfl
instance fr_bool : Free Z "bool" := free_of 78 rfl
instance fr_int : Free Z "int" := free_of 79 rfl
instance fr_isinstance : Free Z "isinstance" := free_of 80 rfl
instance fr_len : Free Z "len" := free_of 81 rfl
instance fr_list : Free Z "list" := free_of 82 rfl
instance fr_max : Free Z "max" := free_of 83 rfl
instance fr_min : Free Z "min" := free_of 84 rfl
instance fr_range : Free Z "range" := free_of 85 rfl
instance fr_reversed : Free Z "reversed" := free_of 86 rfl
instance fr_set : Free Z "set" := free_of 87 rfl
instance fr_sorted : Free Z "sorted" := free_of 88 rfl
instance fr_tuple : Free Z "tuple" := free_of 89 rfl
instance fr_zip : Free Z "zip" := free_of 90 rfl
instance cs_ALU_codes : Cst Z "ALU_codes" c_ALU_codes := cst_of 0 rfl
instance cs_IMMEDIATE : Cst Z "IMMEDIATE" c_IMMEDIATE := cst_of 1 rfl
instance cs_OPS : Cst Z "OPS" c_OPS := cst_of 2 rfl
instance cs_WORD : Cst Z "WORD" c_WORD := cst_of 3 rfl
instance cs_TOP : Cst Z "TOP" c_TOP := cst_of 4 rfl
instance cs_MOST : Cst Z "MOST" c_MOST := cst_of 5 rfl
instance cs_ALU_ways : Cst Z "ALU_ways" c_ALU_ways := cst_of 6 rfl
instance cs_BRANCHES : Cst Z "BRANCHES" c_BRANCHES := cst_of 7 rfl
instance cs_LOADS : Cst Z "LOADS" c_LOADS := cst_of 8 rfl
instance cs_STORES : Cst Z "STORES" c_STORES := cst_of 9 rfl
instance cs_NOTHING : Cst Z "NOTHING" c_NOTHING := cst_of 10 rfl
instance cs_START : Cst Z "START" c_START := cst_of 11 rfl
instance cs_MOST_STEPS : Cst Z "MOST_STEPS" c_MOST_STEPS := cst_of 12 rfl
instance cs_PATIENCE : Cst Z "PATIENCE" c_PATIENCE := cst_of 13 rfl
end
end K23
/-! names and scopes of the defs (printed by gen_defs.py) -/
namespace K23
open PySem PySem.Spec PyProof.Rows L2
/-! def encode: 0 instruction, 1 op, 2 word -/
theorem nm_encode : nmB true (defScope (top 5)) ["instruction", "op", "word"] [true, true, true] [true, true, true] ["OPS", "ALU_codes"] = true := by decide +kernel
theorem sc_encode : FnScope ["instruction", "op", "word"] ["instruction"] (defScope (top 5)) := ⟨rfl, rfl, rfl, by decide +kernel, rfl, by decide +kernel, by decide +kernel⟩
/-! def signed_field: 0 value, 1 bits -/
theorem nm_signed_field : nmB true (defScope (top 6)) ["value", "bits"] [true, true] [true, true] [] = true := by decide +kernel
theorem sc_signed_field : FnScope ["value", "bits"] ["value", "bits"] (defScope (top 6)) := ⟨rfl, rfl, rfl, by decide +kernel, rfl, by decide +kernel, by decide +kernel⟩
/-! def fields: 0 word, 1 number, 2 op, 3 first, 4 second -/
theorem nm_fields : nmB true (defScope (top 7)) ["word", "number", "op", "first", "second"] [true, true, true, true, true] [true, true, true, true, true] ["len", "OPS", "signed_field", "ALU_codes"] = true := by decide +kernel
theorem sc_fields : FnScope ["word", "number", "op", "first", "second"] ["word"] (defScope (top 7)) := ⟨rfl, rfl, rfl, by decide +kernel, rfl, by decide +kernel, by decide +kernel⟩
/-! def decode: 0 word, 1 instruction -/
theorem nm_decode : nmB true (defScope (top 8)) ["word", "instruction"] [true, true] [true, true] ["fields", "encode"] = true := by decide +kernel
theorem sc_decode : FnScope ["word", "instruction"] ["word"] (defScope (top 8)) := ⟨rfl, rfl, rfl, by decide +kernel, rfl, by decide +kernel, by decide +kernel⟩
/-! def find_segment: 0 image, 1 address, 2 count, 3 segments, 4 k -/
theorem nm_find_segment : nmB true (defScope (top 10)) ["image", "address", "count", "segments", "k"] [true, true, true, true, true] [true, true, true, true, true] ["range", "len"] = true := by decide +kernel
theorem sc_find_segment : FnScope ["image", "address", "count", "segments", "k"] ["image", "address", "count"] (defScope (top 10)) := ⟨rfl, rfl, rfl, by decide +kernel, rfl, by decide +kernel, by decide +kernel⟩
/-! def can_load: 0 image, 1 address, 2 count -/
theorem nm_can_load : nmB true (defScope (top 11)) ["image", "address", "count"] [true, true, true] [true, true, true] ["find_segment"] = true := by decide +kernel
theorem sc_can_load : FnScope ["image", "address", "count"] ["image", "address", "count"] (defScope (top 11)) := ⟨rfl, rfl, rfl, by decide +kernel, rfl, by decide +kernel, by decide +kernel⟩
/-! def can_fetch: 0 image, 1 address, 2 k -/
theorem nm_can_fetch : nmB true (defScope (top 12)) ["image", "address", "k"] [true, true, true] [true, true, true] ["find_segment"] = true := by decide +kernel
theorem sc_can_fetch : FnScope ["image", "address", "k"] ["image", "address"] (defScope (top 12)) := ⟨rfl, rfl, rfl, by decide +kernel, rfl, by decide +kernel, by decide +kernel⟩
/-! def load_word: 0 image, 1 memory, 2 address, 3 count, 4 k, 5 at, 6 value, 7 j -/
theorem nm_load_word : nmB true (defScope (top 13)) ["image", "memory", "address", "count", "k", "at", "value", "j"] [true, true, true, true, true, true, true, true] [true, true, true, true, true, true, true, true] ["find_segment", "range"] = true := by decide +kernel
theorem sc_load_word : FnScope ["image", "memory", "address", "count", "k", "at", "value", "j"] ["image", "memory", "address", "count"] (defScope (top 13)) := ⟨rfl, rfl, rfl, by decide +kernel, rfl, by decide +kernel, by decide +kernel⟩
/-! def first_memory: 0 image, 1 segment -/
theorem nm_first_memory : nmB true (defScope (top 14)) ["image", "segment"] [true, false] [true, false] ["tuple"] = true := by decide +kernel
theorem sc_first_memory : FnScope ["image", "segment"] ["image"] (defScope (top 14)) := ⟨rfl, rfl, rfl, by decide +kernel, rfl, by decide +kernel, by decide +kernel⟩
-- comprehension 1: [("segment", 1)] [false, true] [false, true] [] (by decide +kernel) (by decide +kernel)
/-! def word_at: 0 image, 1 address -/
theorem nm_word_at : nmB true (defScope (top 15)) ["image", "address"] [true, true] [true, true] ["load_word", "first_memory"] = true := by decide +kernel
theorem sc_word_at : FnScope ["image", "address"] ["image", "address"] (defScope (top 15)) := ⟨rfl, rfl, rfl, by decide +kernel, rfl, by decide +kernel, by decide +kernel⟩
/-! def signed: 0 x -/
theorem nm_signed : nmB true (defScope (top 17)) ["x"] [true] [true] ["WORD"] = true := by decide +kernel
theorem sc_signed : FnScope ["x"] ["x"] (defScope (top 17)) := ⟨rfl, rfl, rfl, by decide +kernel, rfl, by decide +kernel, by decide +kernel⟩
/-! def compute: 0 op, 1 x, 2 y -/
theorem nm_compute : nmB true (defScope (top 18)) ["op", "x", "y"] [true, true, true] [true, true, true] ["IMMEDIATE", "len", "WORD", "compute_rest"] = true := by decide +kernel
theorem sc_compute : FnScope ["op", "x", "y"] ["op", "x", "y"] (defScope (top 18)) := ⟨rfl, rfl, rfl, by decide +kernel, rfl, by decide +kernel, by decide +kernel⟩
/-! def compute_rest: 0 op, 1 x, 2 y -/
theorem nm_compute_rest : nmB true (defScope (top 19)) ["op", "x", "y"] [true, true, true] [true, true, true] ["WORD", "signed"] = true := by decide +kernel
theorem sc_compute_rest : FnScope ["op", "x", "y"] ["op", "x", "y"] (defScope (top 19)) := ⟨rfl, rfl, rfl, by decide +kernel, rfl, by decide +kernel, by decide +kernel⟩
/-! def holds: 0 op, 1 x, 2 y -/
theorem nm_holds : nmB true (defScope (top 20)) ["op", "x", "y"] [true, true, true] [true, true, true] ["signed"] = true := by decide +kernel
theorem sc_holds : FnScope ["op", "x", "y"] ["op", "x", "y"] (defScope (top 20)) := ⟨rfl, rfl, rfl, by decide +kernel, rfl, by decide +kernel, by decide +kernel⟩
/-! def bounds: 0 fact -/
theorem nm_bounds : nmB true (defScope (top 24)) ["fact"] [true] [true] ["TOP"] = true := by decide +kernel
theorem sc_bounds : FnScope ["fact"] ["fact"] (defScope (top 24)) := ⟨rfl, rfl, rfl, by decide +kernel, rfl, by decide +kernel, by decide +kernel⟩
/-! def of_bounds: 0 lo, 1 hi -/
theorem nm_of_bounds : nmB true (defScope (top 25)) ["lo", "hi"] [true, true] [true, true] ["TOP"] = true := by decide +kernel
theorem sc_of_bounds : FnScope ["lo", "hi"] ["lo", "hi"] (defScope (top 25)) := ⟨rfl, rfl, rfl, by decide +kernel, rfl, by decide +kernel, by decide +kernel⟩
/-! def of_words: 0 row, 1 words -/
theorem nm_of_words : nmB true (defScope (top 26)) ["row", "words"] [true, true] [true, true] ["sorted", "set", "len", "MOST", "tuple", "of_bounds"] = true := by decide +kernel
theorem sc_of_words : FnScope ["row", "words"] ["row"] (defScope (top 26)) := ⟨rfl, rfl, rfl, by decide +kernel, rfl, by decide +kernel, by decide +kernel⟩
/-! def is_row: 0 fact -/
theorem nm_is_row : nmB true (defScope (top 27)) ["fact"] [true] [true] [] = true := by decide +kernel
theorem sc_is_row : FnScope ["fact"] ["fact"] (defScope (top 27)) := ⟨rfl, rfl, rfl, by decide +kernel, rfl, by decide +kernel, by decide +kernel⟩
/-! def only_word: 0 fact -/
theorem nm_only_word : nmB true (defScope (top 28)) ["fact"] [true] [true] ["is_row", "len"] = true := by decide +kernel
theorem sc_only_word : FnScope ["fact"] ["fact"] (defScope (top 28)) := ⟨rfl, rfl, rfl, by decide +kernel, rfl, by decide +kernel, by decide +kernel⟩
/-! def allows: 0 fact, 1 w -/
theorem nm_allows : nmB true (defScope (top 29)) ["fact", "w"] [true, true] [true, true] [] = true := by decide +kernel
theorem sc_allows : FnScope ["fact", "w"] ["fact", "w"] (defScope (top 29)) := ⟨rfl, rfl, rfl, by decide +kernel, rfl, by decide +kernel, by decide +kernel⟩
/-! def within: 0 a, 1 b, 2 lo, 3 hi, 4 w -/
theorem nm_within : nmB true (defScope (top 30)) ["a", "b", "lo", "hi", "w"] [true, true, true, true, false] [true, true, true, true, false] ["is_row", "all", "bounds", "MOST", "range"] = true := by decide +kernel
theorem sc_within : FnScope ["a", "b", "lo", "hi", "w"] ["a", "b"] (defScope (top 30)) := ⟨rfl, rfl, rfl, by decide +kernel, rfl, by decide +kernel, by decide +kernel⟩
-- comprehension 1: [("w", 4)] [false, true, false, false, true] [false, false, false, false, true] ["allows"] (by decide +kernel) (by decide +kernel)
-- comprehension 2: [("w", 4)] [false, true, false, false, true] [false, false, false, false, true] [] (by decide +kernel) (by decide +kernel)
/-! def meet: 0 a, 1 b, 2 low, 3 high, 4 lo, 5 hi, 6 w -/
theorem nm_meet : nmB true (defScope (top 31)) ["a", "b", "low", "high", "lo", "hi", "w"] [true, true, true, true, true, true, false] [true, true, true, true, true, true, false] ["is_row", "tuple", "bounds", "of_bounds", "max", "min"] = true := by decide +kernel
theorem sc_meet : FnScope ["a", "b", "low", "high", "lo", "hi", "w"] ["a", "b"] (defScope (top 31)) := ⟨rfl, rfl, rfl, by decide +kernel, rfl, by decide +kernel, by decide +kernel⟩
-- comprehension 1: [("w", 6)] [false, true, false, false, false, false, true] [false, false, false, false, false, false, true] ["allows"] (by decide +kernel) (by decide +kernel)
-- comprehension 2: [("w", 6)] [true, false, false, false, false, false, true] [false, false, false, false, false, false, true] ["allows"] (by decide +kernel) (by decide +kernel)
/-! def join_facts: 0 a, 1 b, 2 low, 3 high, 4 lo, 5 hi -/
theorem nm_join_facts : nmB true (defScope (top 32)) ["a", "b", "low", "high", "lo", "hi"] [true, true, true, true, true, true] [true, true, true, true, true, true] ["is_row", "of_words", "list", "bounds", "of_bounds", "min", "max"] = true := by decide +kernel
theorem sc_join_facts : FnScope ["a", "b", "low", "high", "lo", "hi"] ["a", "b"] (defScope (top 32)) := ⟨rfl, rfl, rfl, by decide +kernel, rfl, by decide +kernel, by decide +kernel⟩
/-! def result_of_rows: 0 op, 1 a, 2 b, 3 found, 4 x, 5 y -/
theorem nm_result_of_rows : nmB true (defScope (top 33)) ["op", "a", "b", "found", "x", "y"] [true, true, true, true, true, true] [true, true, true, true, true, true] ["compute", "of_words"] = true := by decide +kernel
theorem sc_result_of_rows : FnScope ["op", "a", "b", "found", "x", "y"] ["op", "a", "b"] (defScope (top 33)) := ⟨rfl, rfl, rfl, by decide +kernel, rfl, by decide +kernel, by decide +kernel⟩
/-! def low_mask: 0 a, 1 b -/
theorem nm_low_mask : nmB true (defScope (top 34)) ["a", "b"] [true, true] [true, true] ["max"] = true := by decide +kernel
theorem sc_low_mask : FnScope ["a", "b"] ["a", "b"] (defScope (top 34)) := ⟨rfl, rfl, rfl, by decide +kernel, rfl, by decide +kernel, by decide +kernel⟩
/-! def parts_of: 0 c, 1 found, 2 k, 3 w -/
theorem nm_parts_of : nmB true (defScope (top 35)) ["c", "found", "k", "w"] [true, true, true, false] [true, true, true, false] ["range"] = true := by decide +kernel
theorem sc_parts_of : FnScope ["c", "found", "k", "w"] ["c"] (defScope (top 35)) := ⟨rfl, rfl, rfl, by decide +kernel, rfl, by decide +kernel, by decide +kernel⟩
-- comprehension 1: [("w", 3)] [false, false, true, true] [false, false, false, true] [] (by decide +kernel) (by decide +kernel)
/-! def ones_of: 0 c, 1 k -/
theorem nm_ones_of : nmB true (defScope (top 36)) ["c", "k"] [true, false] [true, false] ["len", "range"] = true := by decide +kernel
theorem sc_ones_of : FnScope ["c", "k"] ["c"] (defScope (top 36)) := ⟨rfl, rfl, rfl, by decide +kernel, rfl, by decide +kernel, by decide +kernel⟩
-- comprehension 1: [("k", 1)] [true, true] [false, true] [] (by decide +kernel) (by decide +kernel)
/-! def result_by_word: 0 op, 1 lo, 2 hi, 3 c -/
theorem nm_result_by_word : nmB true (defScope (top 37)) ["op", "lo", "hi", "c"] [true, true, true, true] [true, true, true, true] ["of_bounds", "TOP"] = true := by decide +kernel
theorem sc_result_by_word : FnScope ["op", "lo", "hi", "c"] ["op", "lo", "hi", "c"] (defScope (top 37)) := ⟨rfl, rfl, rfl, by decide +kernel, rfl, by decide +kernel, by decide +kernel⟩
/-! def result: 0 op, 1 a, 2 b, 3 low, 4 high, 5 lo, 6 hi -/
theorem nm_result : nmB true (defScope (top 38)) ["op", "a", "b", "low", "high", "lo", "hi"] [true, true, true, true, true, true, true] [true, true, true, true, true, true, true] ["is_row", "len", "result_of_rows", "bounds", "TOP", "of_bounds", "ones_of", "of_words", "parts_of", "min", "low_mask", "result_by_word"] = true := by decide +kernel
theorem sc_result : FnScope ["op", "a", "b", "low", "high", "lo", "hi"] ["op", "a", "b"] (defScope (top 38)) := ⟨rfl, rfl, rfl, by decide +kernel, rfl, by decide +kernel, by decide +kernel⟩
/-! def decided: 0 cond, 1 a, 2 b, 3 answers, 4 x, 5 y, 6 low, 7 high, 8 lo, 9 hi -/
theorem nm_decided : nmB true (defScope (top 39)) ["cond", "a", "b", "answers", "x", "y", "low", "high", "lo", "hi"] [true, true, true, true, true, true, true, true, true, true] [true, true, true, true, true, true, true, true, true, true] ["is_row", "len", "holds", "bounds"] = true := by decide +kernel
theorem sc_decided : FnScope ["cond", "a", "b", "answers", "x", "y", "low", "high", "lo", "hi"] ["cond", "a", "b"] (defScope (top 39)) := ⟨rfl, rfl, rfl, by decide +kernel, rfl, by decide +kernel, by decide +kernel⟩
/-! def wrapped: 0 number -/
theorem nm_wrapped : nmB true (defScope (top 46)) ["number"] [true] [true] ["TOP"] = true := by decide +kernel
theorem sc_wrapped : FnScope ["number"] ["number"] (defScope (top 46)) := ⟨rfl, rfl, rfl, by decide +kernel, rfl, by decide +kernel, by decide +kernel⟩
/-! def is_place: 0 image, 1 address -/
theorem nm_is_place : nmB true (defScope (top 47)) ["image", "address"] [true, true] [true, true] ["can_fetch"] = true := by decide +kernel
theorem sc_is_place : FnScope ["image", "address"] ["image", "address"] (defScope (top 47)) := ⟨rfl, rfl, rfl, by decide +kernel, rfl, by decide +kernel, by decide +kernel⟩
/-! def places: 0 image, 1 found, 2 segment, 3 at -/
theorem nm_places : nmB true (defScope (top 48)) ["image", "found", "segment", "at"] [true, true, true, true] [true, true, true, true] ["range", "len"] = true := by decide +kernel
theorem sc_places : FnScope ["image", "found", "segment", "at"] ["image"] (defScope (top 48)) := ⟨rfl, rfl, rfl, by decide +kernel, rfl, by decide +kernel, by decide +kernel⟩
/-! def instruction_at: 0 image, 1 address -/
theorem nm_instruction_at : nmB true (defScope (top 49)) ["image", "address"] [true, true] [true, true] ["decode", "word_at"] = true := by decide +kernel
theorem sc_instruction_at : FnScope ["image", "address"] ["image", "address"] (defScope (top 49)) := ⟨rfl, rfl, rfl, by decide +kernel, rfl, by decide +kernel, by decide +kernel⟩
/-! def one: 0 w -/
theorem nm_one : nmB true (defScope (top 50)) ["w"] [true] [true] [] = true := by decide +kernel
theorem sc_one : FnScope ["w"] ["w"] (defScope (top 50)) := ⟨rfl, rfl, rfl, by decide +kernel, rfl, by decide +kernel, by decide +kernel⟩
/-! def with_fact: 0 facts, 1 r, 2 fact -/
theorem nm_with_fact : nmB true (defScope (top 51)) ["facts", "r", "fact"] [true, true, true] [true, true, true] [] = true := by decide +kernel
theorem sc_with_fact : FnScope ["facts", "r", "fact"] ["facts", "r", "fact"] (defScope (top 51)) := ⟨rfl, rfl, rfl, by decide +kernel, rfl, by decide +kernel, by decide +kernel⟩
/-! def count_of: 0 op -/
theorem nm_count_of : nmB true (defScope (top 52)) ["op"] [true] [true] [] = true := by decide +kernel
theorem sc_count_of : FnScope ["op"] ["op"] (defScope (top 52)) := ⟨rfl, rfl, rfl, by decide +kernel, rfl, by decide +kernel, by decide +kernel⟩
/-! def loaded: 0 image, 1 op, 2 row, 3 value, 4 address, 5 fitting, 6 constant, 7 words, 8 at, 9 offset, 10 part -/
theorem nm_loaded : nmB true (defScope (top 53)) ["image", "op", "row", "value", "address", "fitting", "constant", "words", "at", "offset", "part"] [true, true, true, true, true, true, true, true, true, true, true] [true, true, true, true, true, true, true, true, true, true, true] ["of_bounds", "is_row", "find_segment", "count_of", "of_words"] = true := by decide +kernel
theorem sc_loaded : FnScope ["image", "op", "row", "value", "address", "fitting", "constant", "words", "at", "offset", "part"] ["image", "op", "row"] (defScope (top 53)) := ⟨rfl, rfl, rfl, by decide +kernel, rfl, by decide +kernel, by decide +kernel⟩
-- comprehension 1: [("address", 4)] [true, true, false, false, true, false, false, false, false, false, false] [false, false, false, false, true, false, false, false, false, false, false] ["can_load", "count_of"] (by decide +kernel) (by decide +kernel)
/-! def is_empty: 0 fact -/
theorem nm_is_empty : nmB true (defScope (top 54)) ["fact"] [true] [true] [] = true := by decide +kernel
theorem sc_is_empty : FnScope ["fact"] ["fact"] (defScope (top 54)) := ⟨rfl, rfl, rfl, by decide +kernel, rfl, by decide +kernel, by decide +kernel⟩
/-! def without: 0 fact, 1 other, 2 w, 3 x -/
theorem nm_without : nmB true (defScope (top 55)) ["fact", "other", "w", "x"] [true, true, true, false] [true, true, true, false] ["only_word", "is_row", "tuple"] = true := by decide +kernel
theorem sc_without : FnScope ["fact", "other", "w", "x"] ["fact", "other"] (defScope (top 55)) := ⟨rfl, rfl, rfl, by decide +kernel, rfl, by decide +kernel, by decide +kernel⟩
-- comprehension 1: [("x", 3)] [false, false, true, true] [false, false, false, true] [] (by decide +kernel) (by decide +kernel)
/-! def below: 0 fact, 1 other, 2 less, 3 c, 4 d, 5 first, 6 second -/
theorem nm_below : nmB true (defScope (top 56)) ["fact", "other", "less", "c", "d", "first", "second"] [true, true, true, true, true, true, true] [true, true, true, true, true, true, true] ["only_word", "meet", "of_bounds", "TOP"] = true := by decide +kernel
theorem sc_below : FnScope ["fact", "other", "less", "c", "d", "first", "second"] ["fact", "other", "less"] (defScope (top 56)) := ⟨rfl, rfl, rfl, by decide +kernel, rfl, by decide +kernel, by decide +kernel⟩
/-! def refined: 0 op, 1 taken, 2 facts, 3 ra, 4 rb, 5 a, 6 b -/
theorem nm_refined : nmB true (defScope (top 57)) ["op", "taken", "facts", "ra", "rb", "a", "b"] [true, true, true, true, true, true, true] [true, true, true, true, true, true, true] ["meet", "without", "below", "is_empty", "with_fact"] = true := by decide +kernel
theorem sc_refined : FnScope ["op", "taken", "facts", "ra", "rb", "a", "b"] ["op", "taken", "facts", "ra", "rb"] (defScope (top 57)) := ⟨rfl, rfl, rfl, by decide +kernel, rfl, by decide +kernel, by decide +kernel⟩
/-! def branch_ways: 0 address, 1 instruction, 2 facts, 3 op, 4 ra, 5 rb, 6 imm, 7 answer, 8 found, 9 taken, 10 told, 11 target -/
theorem nm_branch_ways : nmB true (defScope (top 58)) ["address", "instruction", "facts", "op", "ra", "rb", "imm", "answer", "found", "taken", "told", "target"] [true, true, true, true, true, true, true, true, true, true, true, true] [true, true, true, true, true, true, true, true, true, true, true, true] ["decided", "refined", "wrapped"] = true := by decide +kernel
theorem sc_branch_ways : FnScope ["address", "instruction", "facts", "op", "ra", "rb", "imm", "answer", "found", "taken", "told", "target"] ["address", "instruction", "facts"] (defScope (top 58)) := ⟨rfl, rfl, rfl, by decide +kernel, rfl, by decide +kernel, by decide +kernel⟩
/-! def allowed_targets: 0 image, 1 address, 2 facts, 3 instruction, 4 fact, 5 w -/
theorem nm_allowed_targets : nmB true (defScope (top 59)) ["image", "address", "facts", "instruction", "fact", "w"] [true, true, true, true, true, false] [true, true, true, true, true, false] ["instruction_at", "is_row", "sorted"] = true := by decide +kernel
theorem sc_allowed_targets : FnScope ["image", "address", "facts", "instruction", "fact", "w"] ["image", "address", "facts"] (defScope (top 59)) := ⟨rfl, rfl, rfl, by decide +kernel, rfl, by decide +kernel, by decide +kernel⟩
-- comprehension 1: [("w", 5)] [false, false, false, true, false, true] [false, false, false, false, false, true] ["wrapped"] (by decide +kernel) (by decide +kernel)
/-! def memory_ways: 0 image, 1 address, 2 instruction, 3 facts, 4 op, 5 first, 6 ra, 7 imm, 8 row -/
theorem nm_memory_ways : nmB true (defScope (top 60)) ["image", "address", "instruction", "facts", "op", "first", "ra", "imm", "row"] [true, true, true, true, true, true, true, true, true] [true, true, true, true, true, true, true, true, true] ["STORES", "wrapped", "result", "one", "with_fact", "loaded"] = true := by decide +kernel
theorem sc_memory_ways : FnScope ["image", "address", "instruction", "facts", "op", "first", "ra", "imm", "row"] ["image", "address", "instruction", "facts"] (defScope (top 60)) := ⟨rfl, rfl, rfl, by decide +kernel, rfl, by decide +kernel, by decide +kernel⟩
/-! def alu_fact: 0 instruction, 1 facts, 2 op -/
theorem nm_alu_fact : nmB true (defScope (top 61)) ["instruction", "facts", "op"] [true, true, true] [true, true, true] ["one", "ALU_ways", "result", "PLAIN_OF", "wrapped"] = true := by decide +kernel
theorem sc_alu_fact : FnScope ["instruction", "facts", "op"] ["instruction", "facts"] (defScope (top 61)) := ⟨rfl, rfl, rfl, by decide +kernel, rfl, by decide +kernel, by decide +kernel⟩
/-! def joined: 0 rows, 1 found, 2 target, 3 facts, 4 a, 5 b -/
theorem nm_joined : nmB true (defScope (top 62)) ["rows", "found", "target", "facts", "a", "b"] [true, true, true, true, false, false] [true, true, true, true, false, false] ["tuple", "zip", "sorted", "list"] = true := by decide +kernel
theorem sc_joined : FnScope ["rows", "found", "target", "facts", "a", "b"] ["rows"] (defScope (top 62)) := ⟨rfl, rfl, rfl, by decide +kernel, rfl, by decide +kernel, by decide +kernel⟩
-- comprehension 1: [("a", 4), ("b", 5)] [false, false, false, false, true, true] [false, false, false, false, true, true] ["join_facts"] (by decide +kernel) (by decide +kernel)
-- comprehension 2: [("target", 2)] [false, true, true, false, false, false] [false, false, true, false, false, false] [] (by decide +kernel) (by decide +kernel)
/-! def ways: 0 image, 1 address, 2 facts, 3 instruction, 4 follow, 5 op, 6 targets, 7 told, 8 target -/
theorem nm_ways : nmB true (defScope (top 63)) ["image", "address", "facts", "instruction", "follow", "op", "targets", "told", "target"] [true, true, true, true, true, true, true, true, false] [true, true, true, true, true, true, true, true, false] ["instruction_at", "wrapped", "BRANCHES", "joined", "branch_ways", "LOADS", "STORES", "memory_ways", "with_fact", "one", "allowed_targets", "alu_fact"] = true := by decide +kernel
theorem sc_ways : FnScope ["image", "address", "facts", "instruction", "follow", "op", "targets", "told", "target"] ["image", "address", "facts"] (defScope (top 63)) := ⟨rfl, rfl, rfl, by decide +kernel, rfl, by decide +kernel, by decide +kernel⟩
-- comprehension 1: [("target", 8)] [false, false, false, false, false, false, false, true, true] [false, false, false, false, false, false, false, false, true] [] (by decide +kernel) (by decide +kernel)
/-! def plain: 0 image, 1 address -/
theorem nm_plain : nmB true (defScope (top 66)) ["image", "address"] [true, false] [true, false] ["tuple", "places"] = true := by decide +kernel
theorem sc_plain : FnScope ["image", "address"] ["image"] (defScope (top 66)) := ⟨rfl, rfl, rfl, by decide +kernel, rfl, by decide +kernel, by decide +kernel⟩
-- comprehension 1: [("address", 1)] [false, true] [false, true] ["NOTHING"] (by decide +kernel) (by decide +kernel)
/-! def facts_at: 0 table, 1 address, 2 low, 3 high, 4 middle -/
theorem nm_facts_at : nmB true (defScope (top 67)) ["table", "address", "low", "high", "middle"] [true, true, true, true, true] [true, true, true, true, true] ["len"] = true := by decide +kernel
theorem sc_facts_at : FnScope ["table", "address", "low", "high", "middle"] ["table", "address"] (defScope (top 67)) := ⟨rfl, rfl, rfl, by decide +kernel, rfl, by decide +kernel, by decide +kernel⟩
/-! def is_word: 0 value -/
theorem nm_is_word : nmB true (defScope (top 68)) ["value"] [true] [true] ["isinstance", "int", "bool", "TOP"] = true := by decide +kernel
theorem sc_is_word : FnScope ["value"] ["value"] (defScope (top 68)) := ⟨rfl, rfl, rfl, by decide +kernel, rfl, by decide +kernel, by decide +kernel⟩
/-! def ascends: 0 row, 1 at -/
theorem nm_ascends : nmB true (defScope (top 69)) ["row", "at"] [true, true] [true, true] ["range", "len"] = true := by decide +kernel
theorem sc_ascends : FnScope ["row", "at"] ["row"] (defScope (top 69)) := ⟨rfl, rfl, rfl, by decide +kernel, rfl, by decide +kernel, by decide +kernel⟩
/-! def is_fact: 0 value, 1 w -/
theorem nm_is_fact : nmB true (defScope (top 70)) ["value", "w"] [true, false] [true, false] ["isinstance", "tuple", "len", "all", "ascends", "is_word"] = true := by decide +kernel
theorem sc_is_fact : FnScope ["value", "w"] ["value"] (defScope (top 70)) := ⟨rfl, rfl, rfl, by decide +kernel, rfl, by decide +kernel, by decide +kernel⟩
-- comprehension 1: [("w", 1)] [false, true] [false, true] ["is_word"] (by decide +kernel) (by decide +kernel)
/-! def is_table: 0 image, 1 value, 2 row, 3 fact -/
theorem nm_is_table : nmB true (defScope (top 71)) ["image", "value", "row", "fact"] [true, true, true, false] [true, true, true, false] ["isinstance", "tuple", "len", "is_word", "is_place", "all", "ascends"] = true := by decide +kernel
theorem sc_is_table : FnScope ["image", "value", "row", "fact"] ["image", "value"] (defScope (top 71)) := ⟨rfl, rfl, rfl, by decide +kernel, rfl, by decide +kernel, by decide +kernel⟩
-- comprehension 1: [("fact", 3)] [false, false, false, true] [false, false, false, true] ["is_fact"] (by decide +kernel) (by decide +kernel)
-- comprehension 2: [("row", 2)] [false, false, true, false] [false, false, true, false] [] (by decide +kernel) (by decide +kernel)
/-! def facts_within: 0 first, 1 second, 2 a, 3 b -/
theorem nm_facts_within : nmB true (defScope (top 72)) ["first", "second", "a", "b"] [true, true, false, false] [true, true, false, false] ["all", "zip"] = true := by decide +kernel
theorem sc_facts_within : FnScope ["first", "second", "a", "b"] ["first", "second"] (defScope (top 72)) := ⟨rfl, rfl, rfl, by decide +kernel, rfl, by decide +kernel, by decide +kernel⟩
-- comprehension 1: [("a", 2), ("b", 3)] [false, false, true, true] [false, false, true, true] ["within"] (by decide +kernel) (by decide +kernel)
/-! def holds_table: 0 image, 1 table, 2 at, 3 address, 4 facts, 5 is_whole, 6 rows, 7 target, 8 told, 9 fact -/
theorem nm_holds_table : nmB true (defScope (top 73)) ["image", "table", "at", "address", "facts", "is_whole", "rows", "target", "told", "fact"] [true, true, true, true, true, true, true, true, true, false] [true, true, true, true, true, true, true, true, true, false] ["is_table", "is_place", "all", "len", "places", "ways", "facts_within"] = true := by decide +kernel
theorem sc_holds_table : FnScope ["image", "table", "at", "address", "facts", "is_whole", "rows", "target", "told", "fact"] ["image", "table"] (defScope (top 73)) := ⟨rfl, rfl, rfl, by decide +kernel, rfl, by decide +kernel, by decide +kernel⟩
-- comprehension 1: [("fact", 9)] [false, false, false, false, false, false, false, false, false, true] [false, false, false, false, false, false, false, false, false, true] ["allows"] (by decide +kernel) (by decide +kernel)
-- comprehension 2: [("address", 3)] [false, false, true, true, false, false, false, false, false, false] [false, false, false, true, false, false, false, false, false, false] ["NOTHING"] (by decide +kernel) (by decide +kernel)
/-! def widened: 0 old, 1 new, 2 found, 3 a, 4 b -/
theorem nm_widened : nmB true (defScope (top 78)) ["old", "new", "found", "a", "b"] [true, true, true, true, true] [true, true, true, true, true] ["zip", "tuple"] = true := by decide +kernel
theorem sc_widened : FnScope ["old", "new", "found", "a", "b"] ["old", "new"] (defScope (top 78)) := ⟨rfl, rfl, rfl, by decide +kernel, rfl, by decide +kernel, by decide +kernel⟩
/-! def united: 0 found, 1 turns, 2 target, 3 facts, 4 old, 5 new, 6 a, 7 b -/
theorem nm_united : nmB true (defScope (top 79)) ["found", "turns", "target", "facts", "old", "new", "a", "b"] [true, true, true, true, true, true, false, false] [true, true, true, true, true, true, false, false] ["tuple", "zip", "PATIENCE", "widened"] = true := by decide +kernel
theorem sc_united : FnScope ["found", "turns", "target", "facts", "old", "new", "a", "b"] ["found", "turns", "target", "facts"] (defScope (top 79)) := ⟨rfl, rfl, rfl, by decide +kernel, rfl, by decide +kernel, by decide +kernel⟩
-- comprehension 1: [("a", 6), ("b", 7)] [false, false, false, false, false, false, true, true] [false, false, false, false, false, false, true, true] ["join_facts"] (by decide +kernel) (by decide +kernel)
/-! def solve: 0 image, 1 found, 2 turns, 3 queue, 4 waiting, 5 at, 6 address, 7 rows, 8 target, 9 facts -/
theorem nm_solve : nmB true (defScope (top 80)) ["image", "found", "turns", "queue", "waiting", "at", "address", "rows", "target", "facts"] [true, true, true, true, true, true, true, true, true, true] [true, true, true, true, true, true, true, true, true, true] ["is_place", "START", "len", "ways", "MOST_STEPS", "plain", "united", "tuple", "sorted", "list"] = true := by decide +kernel
theorem sc_solve : FnScope ["image", "found", "turns", "queue", "waiting", "at", "address", "rows", "target", "facts"] ["image"] (defScope (top 80)) := ⟨rfl, rfl, rfl, by decide +kernel, rfl, by decide +kernel, by decide +kernel⟩
-- comprehension 1: [("address", 6)] [false, true, false, false, false, false, true, false, false, false] [false, false, false, false, false, false, true, false, false, false] [] (by decide +kernel) (by decide +kernel)
/-! def _law_draw: 0 _law_script, 1 _law_seed, 2 _law_cell -/
theorem nm__law_draw : nmB true (defScope (top 82)) ["_law_script", "_law_seed", "_law_cell"] [true, true, true] [true, true, true] ["int", "abs"] = true := by decide +kernel
theorem sc__law_draw : FnScope ["_law_script", "_law_seed", "_law_cell"] ["_law_script"] (defScope (top 82)) := ⟨rfl, rfl, rfl, by decide +kernel, rfl, by decide +kernel, by decide +kernel⟩
-- comprehension 1: [("_law_cell", 2)] [false, false, true] [false, false, true] ["abs", "int"] (by decide +kernel) (by decide +kernel)
/-! def _law_take: 0 _law_draw_here, 1 _law_many, 2 _law_found -/
theorem nm__law_take : nmB true (defScope (top 83)) ["_law_draw_here", "_law_many", "_law_found"] [true, true, true] [true, true, true] ["len", "int"] = true := by decide +kernel
theorem sc__law_take : FnScope ["_law_draw_here", "_law_many", "_law_found"] ["_law_draw_here", "_law_many"] (defScope (top 83)) := ⟨rfl, rfl, rfl, by decide +kernel, rfl, by decide +kernel, by decide +kernel⟩
/-! def _law_register: 0 _law_b -/
theorem nm__law_register : nmB true (defScope (top 84)) ["_law_b"] [true] [true] ["_law_take"] = true := by decide +kernel
theorem sc__law_register : FnScope ["_law_b"] ["_law_b"] (defScope (top 84)) := ⟨rfl, rfl, rfl, by decide +kernel, rfl, by decide +kernel, by decide +kernel⟩
/-! def _law_put: 0 _law_b, 1 _law_instruction -/
theorem nm__law_put : nmB true (defScope (top 85)) ["_law_b", "_law_instruction"] [true, true] [true, true] [] = true := by decide +kernel
theorem sc__law_put : FnScope ["_law_b", "_law_instruction"] ["_law_b", "_law_instruction"] (defScope (top 85)) := ⟨rfl, rfl, rfl, by decide +kernel, rfl, by decide +kernel, by decide +kernel⟩
/-! def _law_alu: 0 _law_b, 1 _law_k, 2 _law_ops, 3 _law_imm, 4 _law_first -/
theorem nm__law_alu : nmB true (defScope (top 86)) ["_law_b", "_law_k", "_law_ops", "_law_imm", "_law_first"] [true, true, true, true, true] [true, true, true, true, true] ["_law_take", "_law_put", "_law_register", "int"] = true := by decide +kernel
theorem sc__law_alu : FnScope ["_law_b", "_law_k", "_law_ops", "_law_imm", "_law_first"] ["_law_b"] (defScope (top 86)) := ⟨rfl, rfl, rfl, by decide +kernel, rfl, by decide +kernel, by decide +kernel⟩
/-! def _law_access: 0 _law_b, 1 _law_k, 2 _law_at, 3 _law_bases -/
theorem nm__law_access : nmB true (defScope (top 87)) ["_law_b", "_law_k", "_law_at", "_law_bases"] [true, true, true, true] [true, true, true, true] ["_law_take", "_law_put", "_law_register"] = true := by decide +kernel
theorem sc__law_access : FnScope ["_law_b", "_law_k", "_law_at", "_law_bases"] ["_law_b"] (defScope (top 87)) := ⟨rfl, rfl, rfl, by decide +kernel, rfl, by decide +kernel, by decide +kernel⟩
/-! def _law_branch: 0 _law_b, 1 _law_op, 2 _law_at, 3 _law_second, 4 _law_first -/
theorem nm__law_branch : nmB true (defScope (top 88)) ["_law_b", "_law_op", "_law_at", "_law_second", "_law_first"] [true, true, true, true, true] [true, true, true, true, true] ["_law_take", "len", "_law_put", "_law_register", "_law_some"] = true := by decide +kernel
theorem sc__law_branch : FnScope ["_law_b", "_law_op", "_law_at", "_law_second", "_law_first"] ["_law_b"] (defScope (top 88)) := ⟨rfl, rfl, rfl, by decide +kernel, rfl, by decide +kernel, by decide +kernel⟩
/-! def _law_loop: 0 _law_b, 1 _law_counter, 2 _law_at -/
theorem nm__law_loop : nmB true (defScope (top 89)) ["_law_b", "_law_counter", "_law_at"] [true, true, true] [true, true, true] ["_law_alu", "_law_put", "_law_take", "len", "_law_some"] = true := by decide +kernel
theorem sc__law_loop : FnScope ["_law_b", "_law_counter", "_law_at"] ["_law_b"] (defScope (top 89)) := ⟨rfl, rfl, rfl, by decide +kernel, rfl, by decide +kernel, by decide +kernel⟩
/-! def _law_jump: 0 _law_b, 1 _law_table, 2 _law_r, 3 _law_at -/
theorem nm__law_jump : nmB true (defScope (top 90)) ["_law_b", "_law_table", "_law_r", "_law_at"] [true, true, true, true] [true, true, true, true] ["_law_alu", "_law_register", "_law_put", "len", "_law_some", "_law_take"] = true := by decide +kernel
theorem sc__law_jump : FnScope ["_law_b", "_law_table", "_law_r", "_law_at"] ["_law_b"] (defScope (top 90)) := ⟨rfl, rfl, rfl, by decide +kernel, rfl, by decide +kernel, by decide +kernel⟩
/-! def _law_some: 0 _law_b, 1 _law_many, 2 _law_k, 3 _law_what -/
theorem nm__law_some : nmB true (defScope (top 91)) ["_law_b", "_law_many", "_law_k", "_law_what"] [true, true, true, true] [true, true, true, true] ["range", "_law_take", "_law_alu", "_law_access", "_law_put", "_law_register", "_law_branch", "_law_loop", "len", "_law_jump"] = true := by decide +kernel
theorem sc__law_some : FnScope ["_law_b", "_law_many", "_law_k", "_law_what"] ["_law_b", "_law_many"] (defScope (top 91)) := ⟨rfl, rfl, rfl, by decide +kernel, rfl, by decide +kernel, by decide +kernel⟩
/-! def _law_image: 0 _law_draw_here, 1 _law_left, 2 _law_b, 3 _law_base, 4 _law_starts, 5 _law_k, 6 _law_at, 7 _law_words, 8 _law_table, 9 _law_offset, 10 _law_values, 11 _law_segments, 12 _law_instruction -/
theorem nm__law_image : nmB true (defScope (top 92)) ["_law_draw_here", "_law_left", "_law_b", "_law_base", "_law_starts", "_law_k", "_law_at", "_law_words", "_law_table", "_law_offset", "_law_values", "_law_segments", "_law_instruction"] [true, true, true, true, true, true, true, true, true, true, true, true, false] [true, true, true, true, true, true, true, true, true, true, true, true, false] ["_law_take", "_law_put", "_law_some", "_law_register", "range", "len", "_law_bytes", "tuple"] = true := by decide +kernel
theorem sc__law_image : FnScope ["_law_draw_here", "_law_left", "_law_b", "_law_base", "_law_starts", "_law_k", "_law_at", "_law_words", "_law_table", "_law_offset", "_law_values", "_law_segments", "_law_instruction"] ["_law_draw_here", "_law_left"] (defScope (top 92)) := ⟨rfl, rfl, rfl, by decide +kernel, rfl, by decide +kernel, by decide +kernel⟩
-- comprehension 1: [("_law_instruction", 12)] [false, false, false, false, false, false, false, false, false, false, false, false, true] [false, false, false, false, false, false, false, false, false, false, false, false, true] ["encode"] (by decide +kernel) (by decide +kernel)
-- comprehension 2: [("_law_k", 5)] [true, false, false, false, false, true, false, false, false, false, false, false, false] [false, false, false, false, false, true, false, false, false, false, false, false, false] ["_law_take"] (by decide +kernel) (by decide +kernel)
/-! def _law_bytes: 0 _law_words, 1 _law_row, 2 _law_word, 3 _law_k -/
theorem nm__law_bytes : nmB true (defScope (top 93)) ["_law_words", "_law_row", "_law_word", "_law_k"] [true, true, true, true] [true, true, true, true] ["range", "int", "tuple"] = true := by decide +kernel
theorem sc__law_bytes : FnScope ["_law_words", "_law_row", "_law_word", "_law_k"] ["_law_words"] (defScope (top 93)) := ⟨rfl, rfl, rfl, by decide +kernel, rfl, by decide +kernel, by decide +kernel⟩
/-! def _law_closed: 0 _law_image_here, 1 _law_table, 2 _law_rows, 3 _law_address, 4 _law_facts, 5 _law_told, 6 _law_target, 7 _law_after, 8 _law_fact, 9 _law_r -/
theorem nm__law_closed : nmB true (defScope (top 94)) ["_law_image_here", "_law_table", "_law_rows", "_law_address", "_law_facts", "_law_told", "_law_target", "_law_after", "_law_fact", "_law_r"] [true, true, true, true, true, true, true, true, false, false] [true, true, true, true, true, true, true, true, false, false] ["is_place", "ways", "plain", "range"] = true := by decide +kernel
theorem sc__law_closed : FnScope ["_law_image_here", "_law_table", "_law_rows", "_law_address", "_law_facts", "_law_told", "_law_target", "_law_after", "_law_fact", "_law_r"] ["_law_image_here", "_law_table"] (defScope (top 94)) := ⟨rfl, rfl, rfl, by decide +kernel, rfl, by decide +kernel, by decide +kernel⟩
-- comprehension 1: [("_law_fact", 8)] [false, false, false, false, false, false, false, false, true, false] [false, false, false, false, false, false, false, false, true, false] ["allows"] (by decide +kernel) (by decide +kernel)
-- comprehension 2: [("_law_r", 9)] [false, false, true, false, false, false, true, true, false, true] [false, false, false, false, false, false, false, false, false, true] ["within"] (by decide +kernel) (by decide +kernel)
/-! def _law_other_fact: 0 _law_draw_here, 1 _law_k, 2 _law_a -/
theorem nm__law_other_fact : nmB true (defScope (top 95)) ["_law_draw_here", "_law_k", "_law_a"] [true, true, true] [true, true, true] ["_law_take"] = true := by decide +kernel
theorem sc__law_other_fact : FnScope ["_law_draw_here", "_law_k", "_law_a"] ["_law_draw_here"] (defScope (top 95)) := ⟨rfl, rfl, rfl, by decide +kernel, rfl, by decide +kernel, by decide +kernel⟩
/-! def _law_forgotten: 0 _law_draw_here, 1 _law_table, 2 _law_whole, 3 _law_r, 4 _law_gone, 5 _law_rows, 6 _law_address, 7 _law_facts, 8 _law_new -/
theorem nm__law_forgotten : nmB true (defScope (top 96)) ["_law_draw_here", "_law_table", "_law_whole", "_law_r", "_law_gone", "_law_rows", "_law_address", "_law_facts", "_law_new"] [true, true, true, true, true, true, true, true, true] [true, true, true, true, true, true, true, true, true] ["range", "list", "len", "tuple"] = true := by decide +kernel
theorem sc__law_forgotten : FnScope ["_law_draw_here", "_law_table", "_law_whole", "_law_r", "_law_gone", "_law_rows", "_law_address", "_law_facts", "_law_new"] ["_law_draw_here", "_law_table", "_law_whole"] (defScope (top 96)) := ⟨rfl, rfl, rfl, by decide +kernel, rfl, by decide +kernel, by decide +kernel⟩
-- comprehension 1: [("_law_r", 3)] [true, false, false, true, false, false, false, false, false] [false, false, false, true, false, false, false, false, false] ["_law_take"] (by decide +kernel) (by decide +kernel)
/-! def _law_bent: 0 _law_draw_here, 1 _law_table, 2 _law_rows, 3 _law_k, 4 _law_at, 5 _law_address, 6 _law_facts, 7 _law_r, 8 _law_bad, 9 _law_forms -/
theorem nm__law_bent : nmB true (defScope (top 97)) ["_law_draw_here", "_law_table", "_law_rows", "_law_k", "_law_at", "_law_address", "_law_facts", "_law_r", "_law_bad", "_law_forms"] [true, true, true, true, true, true, true, true, true, true] [true, true, true, true, true, true, true, true, true, true] ["list", "_law_take", "_law_forgotten", "len", "tuple", "_law_other_fact", "range", "reversed"] = true := by decide +kernel
theorem sc__law_bent : FnScope ["_law_draw_here", "_law_table", "_law_rows", "_law_k", "_law_at", "_law_address", "_law_facts", "_law_r", "_law_bad", "_law_forms"] ["_law_draw_here", "_law_table"] (defScope (top 97)) := ⟨rfl, rfl, rfl, by decide +kernel, rfl, by decide +kernel, by decide +kernel⟩
/-! def law: 0 _law_script, 1 _law_draw_here, 2 _law_image_here, 3 _law_whole, 4 _law_nothing, 5 _law_address, 6 _law_table, 7 _law_facts, 8 _law_due, 9 _law_turn, 10 _law_bent_here, 11 _law_right, 12 _law_answer, 13 _law_row -/
theorem nm_law : nmB true (defScope (top 98)) ["_law_script", "_law_draw_here", "_law_image_here", "_law_whole", "_law_nothing", "_law_address", "_law_table", "_law_facts", "_law_due", "_law_turn", "_law_bent_here", "_law_right", "_law_answer", "_law_row"] [true, true, true, true, true, true, true, true, true, true, true, true, true, false] [true, true, true, true, true, true, true, true, true, true, true, true, true, false] ["_law_draw", "_law_image", "_law_take", "plain", "tuple", "places", "holds_table", "solve", "facts_at", "range", "_law_bent", "isinstance", "bool", "_law_closed"] = true := by decide +kernel
theorem sc_law : FnScope ["_law_script", "_law_draw_here", "_law_image_here", "_law_whole", "_law_nothing", "_law_address", "_law_table", "_law_facts", "_law_due", "_law_turn", "_law_bent_here", "_law_right", "_law_answer", "_law_row"] ["_law_script"] (defScope (top 98)) := ⟨rfl, rfl, rfl, by decide +kernel, rfl, by decide +kernel, by decide +kernel⟩
-- comprehension 1: [("_law_address", 5)] [false, false, false, false, true, true, false, false, false, false, false, false, false, false] [false, false, false, false, false, true, false, false, false, false, false, false, false, false] [] (by decide +kernel) (by decide +kernel)
-- comprehension 2: [("_law_row", 13)] [false, false, false, false, false, true, false, false, false, false, false, false, false, true] [false, false, false, false, false, false, false, false, false, false, false, false, false, true] [] (by decide +kernel) (by decide +kernel)
end K23
/-! the head, part 2: the top's run -/
namespace K23
open PySem PySem.Spec PyProof.Rows L2
def lo0 : List PySem.Str := ["ALU_codes", "IMMEDIATE", "OPS", "WORD", "encode", "signed_field", "fields", "decode", "find_segment", "can_load", "can_fetch", "load_word", "first_memory", "word_at", "signed", "compute", "compute_rest", "holds", "TOP", "MOST", "bounds", "of_bounds", "of_words", "is_row", "only_word", "allows", "within", "meet", "join_facts", "result_of_rows"]
def lo1 : List PySem.Str := ["low_mask", "parts_of", "ones_of", "result_by_word", "result", "decided", "ALU_ways", "PLAIN_OF", "BRANCHES", "LOADS", "STORES", "wrapped", "is_place", "places", "instruction_at", "one", "with_fact", "count_of", "loaded", "is_empty", "without", "below", "refined", "branch_ways", "allowed_targets", "memory_ways", "alu_fact", "joined", "ways", "NOTHING"]
def lo2 : List PySem.Str := ["plain", "facts_at", "is_word", "ascends", "is_fact", "is_table", "facts_within", "holds_table", "START", "MOST_STEPS", "PATIENCE", "widened", "united", "solve", "_law_draw", "_law_take", "_law_register", "_law_put", "_law_alu", "_law_access", "_law_branch", "_law_loop", "_law_jump", "_law_some", "_law_image", "_law_bytes", "_law_closed", "_law_other_fact", "_law_forgotten", "_law_bent"]
def loose : List PySem.Str := lo0 ++ lo1 ++ lo2
abbrev R : PySem.W.OpenRow := PySem.W.OpenLaw.row PySem.Challenge.rw_restitch_k23_tables_that_hold
def ob (s : PySem.W.SharedT) : AlX := obsX (HandSHeadRun.getT s)
theorem ob_eq (s : PySem.W.SharedT) : ob s = hk.obs s.abs := by
  have e : HandSHeadRun.getT s = s.abs.heap.get? := funext (HandSHeadRun.getT_eq s)
  show obsX (HandSHeadRun.getT s) = obsX s.abs.heap.get?
  rw [e]
theorem runF (w : World) : HandSHeadRun.RunEq R (PySem.W.view R.prog [98]) hk ob 4000 loose (w.withFollow "special-get-raises" false) := by
  intro os
  kernel_rfl
theorem runT (w : World) : HandSHeadRun.RunEq R (PySem.W.view R.prog [98]) hk ob 4000 loose (w.withFollow "special-get-raises" true) := by
  intro os
  kernel_rfl
theorem run (w : World) : HandSHeadRun.RunEq R (PySem.W.view R.prog [98]) hk ob 4000 loose w :=
  PySem.W.byRow2 "special-get-raises" (P := fun w => HandSHeadRun.RunEq R (PySem.W.view R.prog [98]) hk ob 4000 loose w) runF runT w
end K23
/-! plain data by types -/
namespace K23
open PySem PySem.Spec PyProof.Rows L2
/-- the fact of a register -/
inductive Fact where
  | top
  | words (ws : List Int)
  | range (lo hi : Int)
def Fact.D : Fact → PyData
  | .top => .none
  | .words ws => .tuple [.str "words", .tuple (ws.map PyData.int)]
  | .range lo hi => .tuple [.str "range", .int lo, .int hi]
abbrev TOPn : Int := 4294967295
def Fact.isRow : Fact → Bool
  | .words _ => true
  | _ => false
def Fact.only : Fact → Option Int
  | .words [w] => some w
  | _ => none
def Fact.has : Fact → Int → Bool
  | .top, _ => true
  | .words ws, w => ws.any fun v => v == w
  | .range lo hi, w => decide (lo ≤ w) && decide (w ≤ hi)
def optD : Option Int → PyData
  | none => .none
  | some i => .int i
/-- bounds of a fact that is not an empty row -/
def Fact.lo : Fact → Int
  | .top => 0
  | .words ws => ws.head?.getD 0
  | .range lo _ => lo
def Fact.hi : Fact → Int
  | .top => TOPn
  | .words ws => ws.getLast?.getD 0
  | .range _ hi => hi
def Fact.full : Fact → Prop
  | .words ws => ws ≠ []
  | _ => True
def ofB (lo hi : Int) : Fact := if lo > hi then .words [] else if lo = hi then .words [lo] else if lo = 0 ∧ hi = TOPn then .top else .range lo hi
abbrev okW (w : Int) : Prop := 0 ≤ w ∧ w ≤ TOPn
/-- valid, the empty row let in -/
def Fact.okE : Fact → Prop
  | .top => True
  | .words ws => ws.Pairwise (· < ·) ∧ (∀ w ∈ ws, okW w) ∧ ws.length ≤ 16
  | .range lo hi => 0 ≤ lo ∧ lo < hi ∧ hi ≤ TOPn
/-- valid -/
def Fact.ok (f : Fact) : Prop := f.okE ∧ f.full
theorem asc_ends : ∀ {ws : List Int}, ws.Pairwise (· < ·) → ∀ w ∈ ws, ws.head?.getD 0 ≤ w ∧ w ≤ ws.getLast?.getD 0
  | [], _, w, h => absurd h List.not_mem_nil
  | [a], _, w, h => by
    rw [List.mem_singleton.mp h]
    exact ⟨Int.le_refl _, Int.le_refl _⟩
  | a :: b :: r, hp, w, h => by
    obtain ⟨h1, h2⟩ := List.pairwise_cons.mp hp
    have hb := h1 b List.mem_cons_self
    have hl : (a :: b :: r).getLast?.getD 0 = (b :: r).getLast?.getD 0 := by rw [List.getLast?_cons_cons]
    rw [hl]
    rcases List.mem_cons.mp h with e | h
    · have z := asc_ends h2 b List.mem_cons_self
      rw [e]
      exact ⟨Int.le_refl _, by omega⟩
    · have z := asc_ends h2 w h
      exact ⟨by show a ≤ w; have := z.1; have q : (b :: r).head?.getD 0 = b := rfl; omega, z.2⟩
theorem head_mem {ws : List Int} (h : ws ≠ []) : ws.head?.getD 0 ∈ ws := by
  cases ws with
  | nil => exact absurd rfl h
  | cons a r => exact List.mem_cons_self
theorem last_mem {ws : List Int} (h : ws ≠ []) : ws.getLast?.getD 0 ∈ ws := by
  rw [List.getLast?_eq_some_getLast h]
  exact List.getLast_mem h
theorem ok_lo {f : Fact} (h : f.ok) : 0 ≤ f.lo ∧ f.lo ≤ f.hi ∧ f.hi ≤ TOPn := by
  obtain ⟨h1, h2⟩ := h
  cases f with
  | top => exact ⟨Int.le_refl _, by decide, Int.le_refl _⟩
  | words ws =>
    obtain ⟨a, b, _⟩ := h1
    exact ⟨(b _ (head_mem h2)).1, (asc_ends a _ (last_mem h2)).1, (b _ (last_mem h2)).2⟩
  | range lo hi => exact ⟨h1.1, by show lo ≤ hi; have := h1.2.1; omega, h1.2.2⟩
theorem any_int (ws : List Int) (w : Int) : ((ws.map PyData.int).any fun e => PyData.eqv e (.int w)) = ws.any fun v => v == w := by
  rw [List.any_map]; rfl
theorem flat_ints (ws : List Int) : (ws.map PyData.int).all flatD = true := by
  rw [List.all_map]
  exact List.all_eq_true.mpr fun _ _ => rfl
theorem atI_head {α : Type} {x : α} {xs : List α} : atI (x :: xs) 0 = some x := by
  have h : (x :: xs)[0]? = some x := rfl
  have z := atI_nat h
  simpa using z
theorem atI_getLast {α : Type} {xs : List α} (h : xs ≠ []) : atI xs (-1) = some (xs.getLast h) := by
  have e := List.dropLast_concat_getLast h
  have z := atI_last xs.dropLast (xs.getLast h)
  rw [e] at z
  exact z
end K23
open K23
local macro_rules | `(tactic| tm_at "sd") => `(tactic| first
  | assumption
  | exact True.intro
  | rfl
  | omega
  | decide
  | (simp; done))
local macro_rules | `(tactic| tm_at "av") => `(tactic| first
  | exact av_nil
  | (refine' av_cons ?a ?b; (case a => tm_at "ev"); (case b => tm_at "av")))
local macro_rules | `(tactic| tm_at "ct") => `(tactic| first
  | exact ⟨_, rfl, rfl, rfl⟩
  | exact ⟨_, _, rfl, rfl, rfl⟩
  | exact ⟨_, _, _, rfl, rfl, rfl⟩
  | exact ⟨_, _, _, _, rfl, rfl, rfl⟩
  | exact ⟨_, _, _, _, _, rfl, rfl, rfl⟩
  | exact ⟨_, rfl, by tm_at "sd", rfl, rfl⟩
  | exact ⟨_, _, rfl, by tm_at "sd", rfl, rfl⟩
  | exact ⟨_, _, _, rfl, by tm_at "sd", rfl, rfl⟩
  | exact ⟨_, _, _, _, rfl, by tm_at "sd", rfl, rfl⟩
  | exact ⟨_, _, _, _, _, rfl, by tm_at "sd", rfl, rfl⟩
  | exact ⟨_, rfl, by tm_at "sd", by tm_at "sd", rfl, rfl⟩
  | exact ⟨_, _, rfl, by tm_at "sd", by tm_at "sd", rfl, rfl⟩
  | exact ⟨_, _, _, rfl, by tm_at "sd", by tm_at "sd", rfl, rfl⟩
  | exact ⟨_, _, _, _, rfl, by tm_at "sd", by tm_at "sd", rfl, rfl⟩
  | exact ⟨_, _, _, _, _, rfl, by tm_at "sd", by tm_at "sd", rfl, rfl⟩)
local macro_rules | `(tactic| tm_at "ov") => `(tactic| first
  | exact ov_none
  | (refine' ov_some ?a; (case a => tm_at "ev")))
local macro_rules | `(tactic| tm_at "cv") => `(tactic| first
  | (refine' cv_eqI ?a ?b; (case a => tm_at "ev"); (case b => tm_at "ev"))
  | (refine' cv_eqS ?a ?b; (case a => tm_at "ev"); (case b => tm_at "ev"))
  | (refine' cv_eqB ?a ?b; (case a => tm_at "ev"); (case b => tm_at "ev"))
  | (refine' cv_lt ?a ?b; (case a => tm_at "ev"); (case b => tm_at "ev"))
  | (refine' cv_le ?a ?b; (case a => tm_at "ev"); (case b => tm_at "ev"))
  | (refine' cv_gt ?a ?b; (case a => tm_at "ev"); (case b => tm_at "ev"))
  | (refine' cv_ge ?a ?b; (case a => tm_at "ev"); (case b => tm_at "ev"))
  | (refine' cv_neI ?a ?b; (case a => tm_at "ev"); (case b => tm_at "ev"))
  | (refine' cv_neB ?a ?b; (case a => tm_at "ev"); (case b => tm_at "ev"))
  | (refine' cv_isN ?a; (case a => tm_at "ev"))
  | (refine' cv_notN ?a; (case a => tm_at "ev"))
  | (refine' cv_notB ?a; (case a => tm_at "ev"))
  | (refine' cv_in ?a ?b ?d ?c; (case a => tm_at "ev"); (case b => tm_at "ev"); (case d => rfl); (case c => first | rfl | exact flat_ints _)))
local macro_rules | `(tactic| tm_at "ev") => `(tactic| first
  | exact ev_var rfl
  | exact ev_int
  | exact ev_str
  | exact ev_non
  | exact ev_bl
  | exact ev_cst
  | (refine' ev_ixT ?a ?b ?c; (case a => tm_at "ev"); (case b => tm_at "ev"); (case c => rfl))
  | (refine' ev_ixL ?a ?b ?c; (case a => tm_at "ev"); (case b => tm_at "ev"); (case c => rfl))
  | (refine' ev_slT ?a ?b ?c; (case a => tm_at "ev"); (case b => tm_at "ov"); (case c => tm_at "ov"))
  | (refine' ev_add ?a ?b; (case a => tm_at "ev"); (case b => tm_at "ev"))
  | (refine' ev_sub ?a ?b; (case a => tm_at "ev"); (case b => tm_at "ev"))
  | (refine' ev_and ?a ?b; (case a => tm_at "ev"); (case b => tm_at "ev"))
  | (refine' ev_or ?a ?b; (case a => tm_at "ev"); (case b => tm_at "ev"))
  | (refine' ev_xor ?a ?b; (case a => tm_at "ev"); (case b => tm_at "ev"))
  | (refine' ev_shr ?a ?b ?c; (case a => tm_at "ev"); (case b => tm_at "ev"); (case c => tm_at "sd"))
  | (refine' ev_shl ?a ?b ?c; (case a => tm_at "ev"); (case b => tm_at "ev"); (case c => tm_at "sd"))
  | (refine' ev_mul ?a ?b ?c; (case a => tm_at "ev"); (case b => tm_at "ev"); (case c => tm_at "sd"))
  | (refine' ev_fdiv ?a ?b ?c; (case a => tm_at "ev"); (case b => tm_at "ev"); (case c => tm_at "sd"))
  | (refine' ev_fdivP ?a ?b ?c ?d; (case a => tm_at "ev"); (case b => tm_at "ev"); (case c => tm_at "sd"); (case d => tm_at "sd"))
  | (refine' ev_mod ?a ?b ?c; (case a => tm_at "ev"); (case b => tm_at "ev"); (case c => tm_at "sd"))
  | (refine' ev_catT ?a ?b ?c; (case a => tm_at "ev"); (case b => tm_at "ev"); (case c => tm_at "sd"))
  | (refine' ev_neg ?a; (case a => tm_at "ev"))
  | (refine' ev_cmp ?a; (case a => tm_at "cv"))
  | (refine' ev_lenT ?a; (case a => tm_at "ev"))
  | (refine' ev_lenL ?a; (case a => tm_at "ev"))
  | (refine' ev_tupleL ?a; (case a => tm_at "ev"))
  | (refine' ev_listT ?a; (case a => tm_at "ev"))
  | (refine' ev_bits ?a; (case a => tm_at "ev"))
  | (refine' ev_max2 ?a ?b; (case a => tm_at "ev"); (case b => tm_at "ev"))
  | (refine' ev_min2 ?a ?b; (case a => tm_at "ev"); (case b => tm_at "ev"))
  | (refine' ev_tup ?a ?b ?c; (case a => tm_at "av"); (case b => rfl); (case c => rfl))
  | (refine' ev_call ?a ?b; (case a => tm_at "av"); (case b => tm_at "ct"))
  | (refine' ev_andV ?a ?b; (case a => tm_at "ev"); (case b => (intro hh; first | (cases hh; done) | tm_at "ev")); (try (all_goals exact false)))
  | (refine' ev_orV ?a ?b; (case a => tm_at "ev"); (case b => (intro hh; first | (cases hh; done) | tm_at "ev")); (try (all_goals exact false)))
  | (refine' ev_one ?a; (case a => tm_at "ev"))
  | (refine' ev_notV ?a; (case a => tm_at "ev")))
local macro_rules | `(tactic| tm_at "tv") => `(tactic| first
  | (refine' tv_w ?a; (case a => tm_at "wv"))
  | (refine' tv_not ?a; (case a => tm_at "tv"))
  | (refine' tv_cmp ?a; (case a => tm_at "cv"))
  | (refine' tv_val ?a; (case a => tm_at "ev")))
local macro_rules | `(tactic| tm_at "wv") => `(tactic| first
  | (refine' wv_and1 ?a; (case a => tm_at "tv"))
  | (refine' wv_or1 ?a; (case a => tm_at "tv"))
  | (refine' wv_and ?a ?b; (case a => tm_at "tv"); (case b => (intro hh; first | (cases hh; done) | tm_at "wv")); (try (all_goals exact false)))
  | (refine' wv_or ?a ?b; (case a => tm_at "tv"); (case b => (intro hh; first | (cases hh; done) | tm_at "wv")); (try (all_goals exact false))))
local macro_rules | `(tactic| tm_at "eq") => `(tactic| first | rfl | (simp; done) | (simp_all; done) | omega)
local macro_rules | `(tactic| tm_at "fx") => `(tactic| first | rfl | (simp; done))
local macro_rules | `(tactic| tm_at "ret") => `(tactic| (refine' sws_one (sw_retE ?a ?b (by assumption)); (case a => tm_at "ev"); (case b => tm_at "eq")))
local macro_rules | `(tactic| tm_at "retv") => `(tactic| (refine' sws_one (sw_retE ?a ?b (by assumption)); (case a => tm_at "ev")))
local macro_rules | `(tactic| tm_at "ifN") => `(tactic| (refine' sws_ifN ?a ?b ?c; (case a => tm_at "tv"); (case b => tm_at "eq")))
local macro_rules | `(tactic| tm_at "ifT") => `(tactic| (refine' sws_ifT ?a ?b ?c; (case a => tm_at "tv"); (case b => tm_at "eq")))
local macro_rules | `(tactic| tm_at "if2") => `(tactic| (refine' sws_if2 ?a ?b ?c; (case a => tm_at "tv")))
local macro_rules | `(tactic| tm_at "set") => `(tactic| (refine' sws_setV ?a ?b; (case a => tm_at "ev")))
local macro_rules | `(tactic| tm_at "st") => `(tactic| first
  | (refine' sws_one (sw_retE ?a ?b (by assumption)); (case a => tm_at "ev"); (case b => tm_at "eq"))
  | (refine' sws_ifN ?a ?b ?c; (case a => tm_at "tv"); (case b => tm_at "eq"); (case c => tm_at "st"))
  | (refine' sws_ifT ?a ?b ?c; (case a => tm_at "tv"); (case b => tm_at "eq"); (case c => tm_at "st"))
  | (refine' sws_setV ?a ?b; (case a => tm_at "ev"); (case b => tm_at "st"))
  | (refine' sws_nil ?a; (case a => tm_at "st")))
local macro_rules | `(tactic| tm_at "ctl") => `(tactic| (intro _ _ _ h; first
  | (obtain ⟨e, _⟩ := h; rw [e]; rfl)
  | (obtain ⟨_, e, _⟩ := h; rw [e]; rfl)
  | (obtain ⟨_, _, e, _⟩ := h; rw [e]; rfl)
  | (obtain ⟨_, _, _, e, _⟩ := h; rw [e]; rfl)
  | (obtain ⟨_, _, _, _, e, _⟩ := h; rw [e]; rfl)
  | (obtain ⟨_, _, _, _, _, e, _⟩ := h; rw [e]; rfl)
  | (obtain ⟨_, _, _, _, _, _, e, _⟩ := h; rw [e]; rfl)
  | (obtain ⟨_, _, _, _, _, _, _, e, _⟩ := h; rw [e]; rfl)))
local macro_rules | `(tactic| tm_at "un2") => `(tactic| (refine' sws_cons (sw_asg (EV.use ?a (gw_tup (gws_cons (gws_cons (gws_nil ?b)))))); (case a => tm_at "ev")))
/-! facts: the small defs -/
namespace K23
open PySem PySem.Spec PyProof.Rows L2
section
variable {Z : Zx} [W : W0 Z]
abbrev cIsRow : Ct := fun xs S R => ∃ f : Fact, xs = [.d f.D] ∧ R (.d (.bool f.isRow)) S
instance ok_is_row : HasFn Z "is_row" ["fact"] 1 cIsRow := fn_intro sc_is_row nm_is_row (fun _ _ _ _ _ _ us hl => match us, hl with | [_], _ => rfl) (fun _ _ _ ⟨_, e, _⟩ => by rw [e]; rfl) fun X _ xs S R hc => by
  obtain ⟨f, rfl, hR⟩ := hc
  cases f with
  | top => tm_at "ret"
  | words ws => tm_at "ret"
  | range lo hi => tm_at "ret"
abbrev cBounds : Ct := fun xs S R => ∃ f : Fact, xs = [.d f.D] ∧ f.full ∧ R (.d (.tuple [.int f.lo, .int f.hi])) S
instance ok_bounds : HasFn Z "bounds" ["fact"] 1 cBounds := fn_intro sc_bounds nm_bounds (fun _ _ _ _ _ _ us hl => match us, hl with | [_], _ => rfl) (fun _ _ _ ⟨_, e, _⟩ => by rw [e]; rfl) fun X _ xs S R hc => by
  obtain ⟨f, rfl, hf, hR⟩ := hc
  cases f with
  | top => tm_at "st"
  | words ws =>
    cases ws with
    | nil => exact absurd rfl hf
    | cons w ws =>
      have h1 : atI ((w :: ws).map PyData.int) 0 = some (.int w) := atI_head
      have h2 : atI ((w :: ws).map PyData.int) (-1) = some (.int (Fact.words (w :: ws)).hi) := by
        have e := atI_getLast (xs := (w :: ws).map PyData.int) (by simp)
        rw [e]
        show some _ = some (PyData.int (((w :: ws).getLast?).getD 0))
        rw [List.getLast?_eq_some_getLast (by simp), Option.getD_some, List.getLast_map]
      tm_at "ifN"
      tm_at "ifT"
      exact sws_one (sw_ret (EV.use (ev_tup (av_cons (ev_ixT (by tm_at "ev") (by tm_at "ev") h1) (av_cons (ev_ixT (by tm_at "ev") (by tm_at "ev") h2) av_nil)) rfl rfl) hR))
  | range lo hi => tm_at "st"
abbrev cOfB : Ct := fun xs S R => ∃ lo hi : Int, xs = [.d (.int lo), .d (.int hi)] ∧ R (.d (ofB lo hi).D) S
instance ok_of_bounds : HasFn Z "of_bounds" ["lo", "hi"] 1 cOfB := fn_intro sc_of_bounds nm_of_bounds (fun _ _ _ _ _ _ us hl => match us, hl with | [_, _], _ => rfl) (fun _ _ _ ⟨_, _, e, _⟩ => by rw [e]; rfl) fun X _ xs S R hc => by
  obtain ⟨lo, hi, rfl, hR⟩ := hc
  unfold ofB at hR
  refine sws_cons (sw_if (x := decide (hi < lo)) (by tm_at "tv") (fun hh => ?_) fun hh => sws_nil (sws_cons (sw_if (x := decide (lo = hi)) (by tm_at "tv") (fun hh2 => ?_) fun hh2 => sws_nil (sws_cons (sw_if (x := decide (lo = 0) && decide (hi = 4294967295)) (by tm_at "tv") (fun hh3 => ?_) fun hh3 => sws_nil ?_)))))
  · rw [if_pos (of_decide_eq_true hh)] at hR
    tm_at "st"
  · rw [if_neg (of_decide_eq_false hh), if_pos (of_decide_eq_true hh2)] at hR
    tm_at "st"
  · rw [if_neg (of_decide_eq_false hh), if_neg (of_decide_eq_false hh2), if_pos (by simpa using hh3)] at hR
    tm_at "st"
  · rw [if_neg (of_decide_eq_false hh), if_neg (of_decide_eq_false hh2), if_neg (by simpa using hh3)] at hR
    tm_at "st"
abbrev cOnly : Ct := fun xs S R => ∃ f : Fact, xs = [.d f.D] ∧ R (.d (optD f.only)) S
instance ok_only_word : HasFn Z "only_word" ["fact"] 2 cOnly := fn_intro sc_only_word nm_only_word (fun _ _ _ _ _ _ us hl => match us, hl with | [_], _ => rfl) (fun _ _ _ ⟨_, e, _⟩ => by rw [e]; rfl) fun X _ xs S R hc => by
  obtain ⟨f, rfl, hR⟩ := hc
  cases f with
  | top => tm_at "st"
  | words ws =>
    match ws with
    | [] => tm_at "st"
    | [w] => tm_at "st"
    | v :: w :: ws =>
      refine' sws_ifN ?a ?b (by tm_at "st")
      (case a => tm_at "tv")
      simp
      omega
  | range lo hi => tm_at "st"
abbrev cAllows : Ct := fun xs S R => ∃ (f : Fact) (w : Int), xs = [.d f.D, .d (.int w)] ∧ R (.d (.bool (f.has w))) S
instance ok_allows : HasFn Z "allows" ["fact", "w"] 1 cAllows := fn_intro sc_allows nm_allows (fun _ _ _ _ _ _ us hl => match us, hl with | [_, _], _ => rfl) (fun _ _ _ ⟨_, _, e, _⟩ => by rw [e]; rfl) fun X _ xs S R hc => by
  obtain ⟨f, w, rfl, hR⟩ := hc
  cases f with
  | top => tm_at "st"
  | words ws =>
    tm_at "ifN"
    tm_at "ifT"
    tm_at "retv"
    rw [any_int]; rfl
  | range lo hi =>
    tm_at "ifN"
    tm_at "ifN"
    exact sws_one (sw_retE (ev_chainI op_le op_le (by tm_at "ev") (by tm_at "ev") (by tm_at "ev")) rfl hR)
end
end K23
/-! facts: rows, bounds, meet and join -/
namespace K23
open PySem PySem.Spec PyProof.Rows L2
/-- put into an ascending row -/
def insD (x : Int) : List Int → List Int
  | [] => [x]
  | y :: ys => if x < y then x :: y :: ys else if x = y then y :: ys else y :: insD x ys
def sortD (ns : List Int) : List Int := ns.foldr insD []
theorem insD_mem {x z : Int} : ∀ {ys : List Int}, z ∈ insD x ys ↔ z = x ∨ z ∈ ys
  | [] => by simp [insD]
  | y :: ys => by
    unfold insD
    split
    · simp
    · split
      · rename_i h; subst h; simp
      · rw [List.mem_cons, insD_mem, List.mem_cons]
        constructor
        · rintro (h | h | h)
          · exact .inr (.inl h)
          · exact .inl h
          · exact .inr (.inr h)
        · rintro (h | h | h)
          · exact .inr (.inl h)
          · exact .inl h
          · exact .inr (.inr h)
theorem insD_asc {x : Int} : ∀ {ys : List Int}, ys.Pairwise (· < ·) → (insD x ys).Pairwise (· < ·)
  | [], _ => by simp [insD]
  | y :: ys, h => by
    obtain ⟨h1, h2⟩ := List.pairwise_cons.mp h
    unfold insD
    split
    · rename_i hx
      exact List.pairwise_cons.mpr ⟨fun z hz => by
        rcases List.mem_cons.mp hz with e | e
        · rw [e]; exact hx
        · exact Int.lt_trans hx (h1 z e), h⟩
    · split
      · exact h
      · rename_i a b
        exact List.pairwise_cons.mpr ⟨fun z hz => by
          rcases insD_mem.mp hz with e | e
          · omega
          · exact h1 z e, insD_asc h2⟩
theorem sortD_mem {z : Int} : ∀ {ns : List Int}, z ∈ sortD ns ↔ z ∈ ns
  | [] => Iff.rfl
  | n :: ns => by
    show z ∈ insD n (sortD ns) ↔ _
    rw [insD_mem, sortD_mem, List.mem_cons]
theorem sortD_asc : ∀ {ns : List Int}, (sortD ns).Pairwise (· < ·)
  | [] => List.Pairwise.nil
  | n :: ns => insD_asc (sortD_asc (ns := ns))
theorem asc_ext : ∀ {xs ys : List Int}, xs.Pairwise (· < ·) → ys.Pairwise (· < ·) → (∀ z, z ∈ xs ↔ z ∈ ys) → xs = ys
  | [], [], _, _, _ => rfl
  | [], y :: ys, _, _, h => absurd ((h y).mpr List.mem_cons_self) List.not_mem_nil
  | x :: xs, [], _, _, h => absurd ((h x).mp List.mem_cons_self) List.not_mem_nil
  | x :: xs, y :: ys, hx, hy, h => by
    obtain ⟨a1, a2⟩ := List.pairwise_cons.mp hx
    obtain ⟨b1, b2⟩ := List.pairwise_cons.mp hy
    have e : x = y := by
      rcases List.mem_cons.mp ((h x).mp List.mem_cons_self) with e | e
      · exact e
      · rcases List.mem_cons.mp ((h y).mpr List.mem_cons_self) with e' | e'
        · exact e'.symm
        · have := a1 y e'; have := b1 x e; omega
    subst e
    refine congrArg (x :: ·) (asc_ext a2 b2 fun z => ⟨fun hz => ?_, fun hz => ?_⟩)
    · rcases List.mem_cons.mp ((h z).mp (List.mem_cons_of_mem _ hz)) with e | e
      · have := a1 z hz; omega
      · exact e
    · rcases List.mem_cons.mp ((h z).mpr (List.mem_cons_of_mem _ hz)) with e | e
      · have := b1 z hz; omega
      · exact e
def ofWs (ns : List Int) : Fact := if (sortD ns).length ≤ 16 then .words (sortD ns) else ofB ((sortD ns).head?.getD 0) ((sortD ns).getLast?.getD 0)
def win (a b : Fact) : Bool := match b with
  | .top => true
  | .words vs => (match a with
    | .words ws => ws.all (Fact.words vs).has
    | a => decide (a.hi - a.lo < 16) && (List.range (a.hi + 1 - a.lo).toNat).all fun i => vs.any fun v => v == a.lo + (i : Int))
  | .range lo hi => (match a with
    | .words ws => ws.all (Fact.range lo hi).has
    | a => decide (lo ≤ a.lo) && decide (a.hi ≤ hi))
abbrev mxI (i j : Int) : Int := if j > i then j else i
abbrev mnI (i j : Int) : Int := if j < i then j else i
def meetF (a b : Fact) : Fact := match a, b with
  | .words ws, b => .words (ws.filter b.has)
  | a, .words vs => .words (vs.filter a.has)
  | a, b => ofB (mxI a.lo b.lo) (mnI a.hi b.hi)
def joinF (a b : Fact) : Fact := match a, b with
  | .words ws, .words vs => ofWs (ws ++ vs)
  | a, b => ofB (mnI a.lo b.lo) (mxI a.hi b.hi)
section
variable {Z : Zx} [W : W0 Z]
theorem ev_allT {X : Cx} {N : List Str} {sc : Scope} {bs ls : List Bool} {gs : List Str} {k : Nat} [B : Bd Z X N sc bs ls gs k] {e : Expr} {δ : Dl} {S : Sto} {pos p : Pos} {α : Type} {P : α → Bool} {ts : List α} [g : GAt gs "all"] (ha : EV X e δ S (.d (.list (ts.map fun t => .bool (P t))))) (s1 : St1 X e := by exact rfl) :
    EV X (.Call (.Name "all" p) [e] [] pos) δ S (.d (.bool (ts.all P))) := EV.is (ev_all (cs := ts.map P) (by rw [List.map_map]; exact ha) s1) (by rw [List.all_map]; rfl)
abbrev cOfWs : Ct := fun xs S R => ∃ ns : List Int, xs = [.d (.list (ns.map PyData.int))] ∧ ns.length ≤ 4000 ∧ R (.d (ofWs ns).D) S
instance ok_of_words : HasFn Z "of_words" ["row"] 2 cOfWs := fn_intro sc_of_words nm_of_words (fun _ _ _ _ _ _ us hl => match us, hl with | [_], _ => rfl) (by tm_at "ctl") fun X _ xs S R hc => by
  obtain ⟨ns, rfl, hn, hR⟩ := hc
  refine sws_cons (sw_set (ew_sortSet (ns := ns) (by tm_at "ev") (by unfold scanBound; omega) fun ms h1 h2 => ?_))
  have e : ms = sortD ns := asc_ext h1 sortD_asc fun z => by rw [h2 z, sortD_mem]
  subst e
  unfold ofWs at hR
  refine' sws_if2 (x := decide ((sortD ns).length ≤ 16)) ?a (fun h => ?b) fun h => ?c
  case a => refine TV.is (x := decide (((List.map PyData.int (sortD ns)).length : Int) ≤ 16)) (by tm_at "tv") (by rw [List.length_map]; exact decide_eq_decide.mpr (by omega))
  case b =>
    rw [if_pos (of_decide_eq_true h)] at hR
    tm_at "ret"
  case c =>
    rw [if_neg (of_decide_eq_false h)] at hR
    have hne : sortD ns ≠ [] := fun z => by rw [z] at h; exact absurd h (by decide)
    have h1 : atI ((sortD ns).map PyData.int) 0 = some (.int ((sortD ns).head?.getD 0)) := by
      cases hs : sortD ns with
      | nil => exact absurd hs hne
      | cons a r => exact atI_head
    have h2 : atI ((sortD ns).map PyData.int) (-1) = some (.int ((sortD ns).getLast?.getD 0)) := by
      rw [atI_getLast (xs := (sortD ns).map PyData.int) (by simpa using hne), List.getLast?_eq_some_getLast hne, Option.getD_some, List.getLast_map]
    exact sws_one (sw_retE (ev_call (xs := [.d (.int ((sortD ns).head?.getD 0)), .d (.int ((sortD ns).getLast?.getD 0))]) (av_cons (ev_ixL (by tm_at "ev") (by tm_at "ev") h1) (av_cons (ev_ixL (by tm_at "ev") (by tm_at "ev") h2) av_nil)) (by tm_at "ct")) rfl hR)
end
end K23
/-! facts: within, meet, join -/
namespace K23
open PySem PySem.Spec PyProof.Rows L2
section
variable {Z : Zx} [W : W0 Z]
theorem len_ws {f : List Int} (h : (Fact.words f).okE) : f.length < sizeLine := Nat.lt_of_le_of_lt h.2.2 (by decide)
abbrev cWin : Ct := fun xs S R => ∃ a b : Fact, xs = [.d a.D, .d b.D] ∧ a.ok ∧ b.okE ∧ R (.d (.bool (win a b))) S
instance ok_within : HasFn Z "within" ["a", "b"] 2 cWin := fn_intro sc_within nm_within (fun _ _ _ _ _ _ us hl => match us, hl with | [_, _], _ => rfl) (by tm_at "ctl") fun X _ xs S R hc => by
  obtain ⟨a, b, rfl, ha, hb, hR⟩ := hc
  have ⟨l1, l2, l3⟩ := ok_lo ha
  cases b with
  | top => tm_at "ifT"; tm_at "st"
  | words vs =>
    tm_at "ifN"
    cases a with
    | words ws =>
      tm_at "ifT"
      refine sws_one (sw_retE (ev_allT (P := (Fact.words vs).has) (ts := ws) (ev_lcM (D := PyData.int) [("w", 4)] [false, true, false, false, true] [false, false, false, false, true] ["allows"] (by decide +kernel) (by decide +kernel) (by decide) (iw_tup (by tm_at "ev")) (len_ws ha.1) fun X1 _ t ht => by tm_at "ev")) ?_ hR)
      rfl
    | top =>
      tm_at "ifN"
      tm_at "un2"
      tm_at "ifT"
      refine' sws_one (sw_retE (ev_andV (y := false) ?a fun h => ?b) ?c hR)
      case a => tm_at "ev"
      case b => exact absurd h (by decide)
      case c =>
        have e : win Fact.top (Fact.words vs) = false := by
          show (decide (Fact.top.hi - Fact.top.lo < 16) && (List.range (Fact.top.hi + 1 - Fact.top.lo).toNat).all fun i => vs.any fun v => v == Fact.top.lo + (i : Int)) = false
          rw [show decide (Fact.top.hi - Fact.top.lo < 16) = false from by decide, Bool.false_and]
        rw [e, Bool.and_false]
    | range lo hi =>
      tm_at "ifN"
      tm_at "un2"
      tm_at "ifT"
      refine sws_one (sw_retE (ev_andV (x := decide (hi - lo < 16)) (by tm_at "ev") fun hx => ev_one (ev_allT (P := fun i : Nat => vs.any fun v => v == lo + (i : Int)) (ts := List.range (hi + 1 - lo).toNat) (ev_lcM (D := fun i : Nat => .int (lo + (i : Int))) [("w", 4)] [false, true, false, false, true] [false, false, false, false, true] [] (by decide +kernel) (by decide +kernel) (by decide) (iw_range2 (m := lo) (n := hi + 1) (by tm_at "ev") (by tm_at "ev") ?q) ?r fun X1 _ t ht => EV.is (by tm_at "ev") (by rw [any_int])))) ?s hR)
      case q =>
        have := ha.1.1; have := ha.1.2.1; have := ha.1.2.2
        unfold TOPn at *
        omega
      case r =>
        have := of_decide_eq_true hx
        rw [List.length_range]
        unfold sizeLine
        omega
      case s => rfl
  | range lo hi =>
    tm_at "ifN"
    cases a with
    | words ws =>
      tm_at "ifT"
      refine sws_one (sw_retE (ev_allT (P := (Fact.range lo hi).has) (ts := ws) (ev_lcM (D := PyData.int) [("w", 4)] [false, true, false, false, true] [false, false, false, false, true] ["allows"] (by decide +kernel) (by decide +kernel) (by decide) (iw_tup (by tm_at "ev")) (len_ws ha.1) fun X1 _ t ht => by tm_at "ev")) ?_ hR)
      rfl
    | top =>
      tm_at "ifN"
      tm_at "un2"
      tm_at "ifN"
      tm_at "ret"
    | range lo' hi' =>
      tm_at "ifN"
      tm_at "un2"
      tm_at "ifN"
      tm_at "ret"
abbrev cMeet : Ct := fun xs S R => ∃ a b : Fact, xs = [.d a.D, .d b.D] ∧ a.okE ∧ b.okE ∧ R (.d (meetF a b).D) S
instance ok_meet : HasFn Z "meet" ["a", "b"] 2 cMeet := fn_intro sc_meet nm_meet (fun _ _ _ _ _ _ us hl => match us, hl with | [_, _], _ => rfl) (by tm_at "ctl") fun X _ xs S R hc => by
  obtain ⟨a, b, rfl, ha, hb, hR⟩ := hc
  cases a with
  | words ws =>
    tm_at "ifT"
    refine sws_one (sw_retE (ev_tup (av_cons ev_str (av_cons (ev_tupleL (ev_lcF (D := PyData.int) (P := b.has) (F := PyData.int) [("w", 6)] [false, true, false, false, false, false, true] [false, false, false, false, false, false, true] ["allows"] (by decide +kernel) (by decide +kernel) (by decide) (iw_tup (by tm_at "ev")) (len_ws ha) (fun X1 _ t ht => by tm_at "tv") fun X1 _ t ht _ => by tm_at "ev")) av_nil)) rfl rfl) ?_ hR)
    rfl
  | top =>
    tm_at "ifN"
    cases b with
    | words vs =>
      tm_at "ifT"
      refine sws_one (sw_retE (ev_tup (av_cons ev_str (av_cons (ev_tupleL (ev_lcF (D := PyData.int) (P := Fact.top.has) (F := PyData.int) [("w", 6)] [true, false, false, false, false, false, true] [false, false, false, false, false, false, true] ["allows"] (by decide +kernel) (by decide +kernel) (by decide) (iw_tup (by tm_at "ev")) (len_ws hb) (fun X1 _ t ht => by tm_at "tv") fun X1 _ t ht _ => by tm_at "ev")) av_nil)) rfl rfl) ?_ hR)
      rfl
    | top =>
      tm_at "ifN"
      tm_at "un2"
      tm_at "un2"
      tm_at "ret"
    | range lo hi =>
      tm_at "ifN"
      tm_at "un2"
      tm_at "un2"
      tm_at "ret"
  | range lo hi =>
    tm_at "ifN"
    cases b with
    | words vs =>
      tm_at "ifT"
      refine sws_one (sw_retE (ev_tup (av_cons ev_str (av_cons (ev_tupleL (ev_lcF (D := PyData.int) (P := (Fact.range lo hi).has) (F := PyData.int) [("w", 6)] [true, false, false, false, false, false, true] [false, false, false, false, false, false, true] ["allows"] (by decide +kernel) (by decide +kernel) (by decide) (iw_tup (by tm_at "ev")) (len_ws hb) (fun X1 _ t ht => by tm_at "tv") fun X1 _ t ht _ => by tm_at "ev")) av_nil)) rfl rfl) ?_ hR)
      rfl
    | top =>
      tm_at "ifN"
      tm_at "un2"
      tm_at "un2"
      tm_at "ret"
    | range lo hi =>
      tm_at "ifN"
      tm_at "un2"
      tm_at "un2"
      tm_at "ret"
abbrev cJoin : Ct := fun xs S R => ∃ a b : Fact, xs = [.d a.D, .d b.D] ∧ a.ok ∧ b.ok ∧ R (.d (joinF a b).D) S
instance ok_join_facts : HasFn Z "join_facts" ["a", "b"] 3 cJoin := fn_intro sc_join_facts nm_join_facts (fun _ _ _ _ _ _ us hl => match us, hl with | [_, _], _ => rfl) (by tm_at "ctl") fun X _ xs S R hc => by
  obtain ⟨a, b, rfl, ha, hb, hR⟩ := hc
  have fa := ha.2
  have fb := hb.2
  by_cases hh : a.isRow = true ∧ b.isRow = true
  · cases a with
    | words ws =>
      cases b with
      | words vs =>
        tm_at "ifT"
        have z1 := ha.1.2.2
        have z2 := hb.1.2.2
        refine sws_one (sw_retE (ev_call (xs := [.d (.list ((ws ++ vs).map PyData.int))]) (av_cons (ev_frz (ew_catO (ew_listTO (by tm_at "ev") fun l hl => ew_listTO (by tm_at "ev") fun l2 hl2 => ?_))) av_nil) ⟨ws ++ vs, rfl, ?_, rfl, rfl⟩) rfl hR)
        · have k1 := (SLe.refl S).new (o := .lst ((ws.map PyData.int).map SV.d)) hl
          have k2 := k1.new (o := .lst ((vs.map PyData.int).map SV.d)) (k1.free hl2)
          exact ⟨l, l2, _, _, rfl, rfl, (SLe.refl _).new hl2 _ _ supd_same, supd_same, by simp only [List.length_map]; unfold sizeLine; omega, fun l3 hl3 => ⟨l3, rfl, by rw [List.map_append, List.map_append]; exact supd_same, k2.new (k2.free hl3), k2.free hl3⟩⟩
        · rw [List.length_append]; omega
      | _ => exact absurd hh.2 Bool.false_ne_true
    | _ => exact absurd hh.1 Bool.false_ne_true
  · have e : joinF a b = ofB (mnI a.lo b.lo) (mxI a.hi b.hi) := by
      cases a <;> cases b <;> first | rfl | exact absurd ⟨rfl, rfl⟩ hh
    rw [e] at hR
    refine' sws_ifN (x := a.isRow && b.isRow) ?a ?b ?c
    case a => refine tv_w (wv_and (tv_val (by tm_at "ev")) fun _ => wv_and1 (tv_val (by tm_at "ev")))
    case b =>
      cases h1 : a.isRow <;> cases h2 : b.isRow <;> first | rfl | exact absurd ⟨h1, h2⟩ hh
    case c =>
      tm_at "un2"
      tm_at "un2"
      tm_at "ret"
end
end K23
/-! the machine's words -/
namespace K23
open PySem PySem.Spec PyProof.Rows L2
abbrev alu13 : List Str := ["add", "sub", "mul", "and", "or", "xor", "shl", "shr", "sar", "slt", "sltu", "divu", "remu"]
abbrev imm8 : List Str := ["addi", "andi", "ori", "xori", "shli", "shri", "sari", "slti"]
abbrev inS (op : Str) (l : List Str) : Bool := (l.map PyData.str).any fun e => PyData.eqv e (.str op)
abbrev m32 (v : Int) : Int := Builtin.bitAnd v (4294967296 - 1)
abbrev sh5 (y : Int) : Int := Builtin.bitAnd y 31
def sgn (x : Int) : Int := if (x / 2 ^ (31 : Int).toNat != 0) = true then x - 4294967296 else x
def compR (op : Str) (x y : Int) : Int :=
  if op = "shl" then m32 (x * 2 ^ (sh5 y).toNat) else
  if op = "shr" then x / 2 ^ (sh5 y).toNat else
  if op = "sar" then m32 (sgn x / 2 ^ (sh5 y).toNat) else
  if op = "slt" then (if sgn x < sgn y then 1 else 0) else
  if op = "sltu" then (if x < y then 1 else 0) else
  if op = "divu" then (if y = 0 then 4294967296 - 1 else x / y) else
  if y = 0 then x else x - x / y * y
def comp (op : Str) (x y : Int) : Int :=
  if op = "add" then m32 (x + y) else
  if op = "sub" then m32 (x - y) else
  if op = "mul" then m32 (x * y) else
  if op = "and" then Builtin.bitAnd x y else
  if op = "or" then Builtin.bitOr x y else
  if op = "xor" then Builtin.bitXor x y else
  compR op x y
def holdF (op : Str) (x y : Int) : Bool :=
  if op = "beq" then decide (x = y) else
  if op = "bne" then !decide (x = y) else
  if op = "blt" then decide (sgn x < sgn y) else
  if op = "bge" then decide (sgn y ≤ sgn x) else
  if op = "bltu" then decide (x < y) else
  decide (y ≤ x)
theorem sh5_ok {y : Int} (h : okW y) : 0 ≤ sh5 y ∧ sh5 y < 32 := by
  have e : sh5 y = y % 32 := by
    have z := Bits.bitAnd_mask (x := y) 5 h.1
    exact z
  rw [e]; omega
theorem not_imm : ∀ op ∈ alu13, inS op imm8 = false := by decide +kernel
theorem okW_abs {x : Int} (h : okW x) : x.natAbs < 2 ^ 64 := by
  obtain ⟨h1, h2⟩ := h
  unfold TOPn at h2
  omega
section
variable {Z : Zx} [W : W0 Z]
abbrev cSigned : Ct := fun xs S R => ∃ x : Int, xs = [.d (.int x)] ∧ R (.d (.int (sgn x))) S
instance ok_signed : HasFn Z "signed" ["x"] 1 cSigned := fn_intro sc_signed nm_signed (fun _ _ _ _ _ _ us hl => match us, hl with | [_], _ => rfl) (by tm_at "ctl") fun X _ xs S R hc => by
  obtain ⟨x, rfl, hR⟩ := hc
  unfold sgn at hR
  refine' sws_if2 ?a (fun h => ?b) fun h => ?c
  case a => exact tv_int (by tm_at "ev")
  case' c => rw [if_neg (by rw [h]; decide)] at hR
  case' b => rw [if_pos h] at hR
  · tm_at "ret"
  · tm_at "ret"
abbrev cCompR : Ct := fun xs S R => ∃ (op : Str) (x y : Int), xs = [.d (.str op), .d (.int x), .d (.int y)] ∧ okW x ∧ okW y ∧ R (.d (.int (compR op x y))) S
instance ok_compute_rest : HasFn Z "compute_rest" ["op", "x", "y"] 2 cCompR := fn_intro sc_compute_rest nm_compute_rest (fun _ _ _ _ _ _ us hl => match us, hl with | [_, _, _], _ => rfl) (by tm_at "ctl") fun X _ xs S R hc => by
  obtain ⟨op, x, y, rfl, hx, hy, hR⟩ := hc
  have ⟨y1, y2⟩ := sh5_ok hy
  have ax := okW_abs hx
  obtain ⟨x1, x2⟩ := hx
  obtain ⟨v1, v2⟩ := hy
  unfold compR at hR
  refine' sws_if2 ?a1 (fun h => ?b1) fun h => ?c1
  case a1 => tm_at "tv"
  case' c1 => rw [if_neg (of_decide_eq_false h)] at hR
  case' b1 => rw [if_pos (of_decide_eq_true h)] at hR
  · exact sws_one (sw_retE (ev_and (ev_shl (by tm_at "ev") (by tm_at "ev") ⟨y1, by omega, ax⟩) (by tm_at "ev")) rfl hR)
  refine' sws_if2 ?a2 (fun h => ?b2) fun h => ?c2
  case a2 => tm_at "tv"
  case' c2 => rw [if_neg (of_decide_eq_false h)] at hR
  case' b2 => rw [if_pos (of_decide_eq_true h)] at hR
  · exact sws_one (sw_retE (ev_shr (by tm_at "ev") (by tm_at "ev") y1) rfl hR)
  refine' sws_if2 ?a3 (fun h => ?b3) fun h => ?c3
  case a3 => tm_at "tv"
  case' c3 => rw [if_neg (of_decide_eq_false h)] at hR
  case' b3 => rw [if_pos (of_decide_eq_true h)] at hR
  · exact sws_one (sw_retE (ev_and (ev_shr (by tm_at "ev") (by tm_at "ev") y1) (by tm_at "ev")) rfl hR)
  refine' sws_if2 ?a4 (fun h => ?b4) fun h => ?c4
  case a4 => tm_at "tv"
  case' c4 => rw [if_neg (of_decide_eq_false h)] at hR
  case' b4 => rw [if_pos (of_decide_eq_true h)] at hR
  · refine sws_one (sw_retE (ev_ifI (x := decide (sgn x < sgn y)) (by tm_at "tv") (fun _ => ev_int) fun _ => ev_int) (by simp) hR)
  refine' sws_if2 ?a5 (fun h => ?b5) fun h => ?c5
  case a5 => tm_at "tv"
  case' c5 => rw [if_neg (of_decide_eq_false h)] at hR
  case' b5 => rw [if_pos (of_decide_eq_true h)] at hR
  · refine sws_one (sw_retE (ev_ifI (x := decide (x < y)) (by tm_at "tv") (fun _ => ev_int) fun _ => ev_int) (by simp) hR)
  refine' sws_if2 ?a6 (fun h => ?b6) fun h => ?c6
  case a6 => tm_at "tv"
  case' c6 => rw [if_neg (of_decide_eq_false h)] at hR
  case' b6 => rw [if_pos (of_decide_eq_true h)] at hR
  · refine sws_one (sw_retE (ev_ifI (x := decide (y = 0)) (by tm_at "tv") (fun _ => by tm_at "ev") fun h => ev_fdivP (by tm_at "ev") (by tm_at "ev") ?_ ?_) (by simp) hR)
    · have := of_decide_eq_false h; omega
    · unfold TOPn at v2; omega
  · refine sws_one (sw_retE (ev_ifI (x := decide (y = 0)) (by tm_at "tv") (fun _ => by tm_at "ev") fun h => ev_sub (by tm_at "ev") (ev_mul (ev_fdivP (by tm_at "ev") (by tm_at "ev") ?_ ?_) (by tm_at "ev") ?_)) (by simp) hR)
    · have := of_decide_eq_false h; omega
    · unfold TOPn at v2; omega
    · unfold TOPn at v2; exact .inr ⟨by omega, by omega⟩
abbrev cComp : Ct := fun xs S R => ∃ (op : Str) (x y : Int), xs = [.d (.str op), .d (.int x), .d (.int y)] ∧ op ∈ alu13 ∧ okW x ∧ okW y ∧ R (.d (.int (comp op x y))) S
instance ok_compute : HasFn Z "compute" ["op", "x", "y"] 3 cComp := fn_intro sc_compute nm_compute (fun _ _ _ _ _ _ us hl => match us, hl with | [_, _, _], _ => rfl) (by tm_at "ctl") fun X _ xs S R hc => by
  obtain ⟨op, x, y, rfl, ho, hx, hy, hR⟩ := hc
  unfold comp at hR
  refine' sws_ifN ?a (not_imm op ho) ?c
  (case a => tm_at "tv")
  refine' sws_if2 ?a7 (fun h => ?b7) fun h => ?c7
  case a7 => tm_at "tv"
  case' c7 => rw [if_neg (of_decide_eq_false h)] at hR
  case' b7 => rw [if_pos (of_decide_eq_true h)] at hR
  · tm_at "ret"
  refine' sws_if2 ?a8 (fun h => ?b8) fun h => ?c8
  case a8 => tm_at "tv"
  case' c8 => rw [if_neg (of_decide_eq_false h)] at hR
  case' b8 => rw [if_pos (of_decide_eq_true h)] at hR
  · tm_at "ret"
  refine' sws_if2 ?a9 (fun h => ?b9) fun h => ?c9
  case a9 => tm_at "tv"
  case' c9 => rw [if_neg (of_decide_eq_false h)] at hR
  case' b9 => rw [if_pos (of_decide_eq_true h)] at hR
  · refine sws_one (sw_retE (ev_and (ev_mul (by tm_at "ev") (by tm_at "ev") (.inr ?_)) (by tm_at "ev")) rfl hR)
    have := hy.1; have := hy.2; unfold TOPn at *
    exact ⟨by omega, by omega⟩
  refine' sws_if2 ?a10 (fun h => ?b10) fun h => ?c10
  case a10 => tm_at "tv"
  case' c10 => rw [if_neg (of_decide_eq_false h)] at hR
  case' b10 => rw [if_pos (of_decide_eq_true h)] at hR
  · tm_at "ret"
  refine' sws_if2 ?a11 (fun h => ?b11) fun h => ?c11
  case a11 => tm_at "tv"
  case' c11 => rw [if_neg (of_decide_eq_false h)] at hR
  case' b11 => rw [if_pos (of_decide_eq_true h)] at hR
  · tm_at "ret"
  refine' sws_if2 ?a12 (fun h => ?b12) fun h => ?c12
  case a12 => tm_at "tv"
  case' c12 => rw [if_neg (of_decide_eq_false h)] at hR
  case' b12 => rw [if_pos (of_decide_eq_true h)] at hR
  · tm_at "ret"
  · tm_at "ret"
abbrev cHold : Ct := fun xs S R => ∃ (op : Str) (x y : Int), xs = [.d (.str op), .d (.int x), .d (.int y)] ∧ R (.d (.bool (holdF op x y))) S
instance ok_holds : HasFn Z "holds" ["op", "x", "y"] 2 cHold := fn_intro sc_holds nm_holds (fun _ _ _ _ _ _ us hl => match us, hl with | [_, _, _], _ => rfl) (by tm_at "ctl") fun X _ xs S R hc => by
  obtain ⟨op, x, y, rfl, hR⟩ := hc
  unfold holdF at hR
  refine' sws_if2 ?a13 (fun h => ?b13) fun h => ?c13
  case a13 => tm_at "tv"
  case' c13 => rw [if_neg (of_decide_eq_false h)] at hR
  case' b13 => rw [if_pos (of_decide_eq_true h)] at hR
  · tm_at "ret"
  refine' sws_if2 ?a14 (fun h => ?b14) fun h => ?c14
  case a14 => tm_at "tv"
  case' c14 => rw [if_neg (of_decide_eq_false h)] at hR
  case' b14 => rw [if_pos (of_decide_eq_true h)] at hR
  · tm_at "ret"
  refine' sws_if2 ?a15 (fun h => ?b15) fun h => ?c15
  case a15 => tm_at "tv"
  case' c15 => rw [if_neg (of_decide_eq_false h)] at hR
  case' b15 => rw [if_pos (of_decide_eq_true h)] at hR
  · tm_at "ret"
  refine' sws_if2 ?a16 (fun h => ?b16) fun h => ?c16
  case a16 => tm_at "tv"
  case' c16 => rw [if_neg (of_decide_eq_false h)] at hR
  case' b16 => rw [if_pos (of_decide_eq_true h)] at hR
  · tm_at "ret"
  refine' sws_if2 ?a17 (fun h => ?b17) fun h => ?c17
  case a17 => tm_at "tv"
  case' c17 => rw [if_neg (of_decide_eq_false h)] at hR
  case' b17 => rw [if_pos (of_decide_eq_true h)] at hR
  · tm_at "ret"
  · tm_at "ret"
end
end K23
/-! facts: what an instruction makes of them -/
namespace K23
open PySem PySem.Spec PyProof.Rows L2
def bitB (c : Int) (i : Nat) : Bool := decide (Builtin.bitAnd (c / 2 ^ (0 + (i : Int)).toNat) 1 = 1)
def onesF (c : Int) : Nat := ((List.range 32).filter (bitB c)).length
def partS (c : Int) (acc : List Int) (i : Nat) : List Int := if bitB c i = true then acc ++ acc.map fun w => Builtin.bitOr w (1 * 2 ^ (0 + (i : Int)).toNat) else acc
def partsF (c : Int) : List Int := (List.range 32).foldl (partS c) [0]
theorem parts_len {c : Int} : ∀ (r : List Nat) (acc : List Int), (r.foldl (partS c) acc).length = acc.length * 2 ^ (r.filter (bitB c)).length
  | [], acc => by simp
  | i :: r, acc => by
    rw [List.foldl_cons, parts_len r]
    unfold partS
    split
    · rename_i h
      rw [List.filter_cons_of_pos h, List.length_append, List.length_map, List.length_cons, Nat.pow_succ, ← Nat.mul_two, Nat.mul_assoc, Nat.mul_comm 2]
    · rename_i h
      rw [List.filter_cons_of_neg h]
def maskF (a b : Int) : Int := 1 * 2 ^ ((Builtin.Int.intBits (mxI a b) : Nat) : Int).toNat - 1
def resW (op : Str) (lo hi c : Int) : Fact :=
  if op = "shr" then ofB (lo / 2 ^ (sh5 c).toNat) (hi / 2 ^ (sh5 c).toNat) else
  if (decide (op = "shl") && decide (hi * 2 ^ (sh5 c).toNat ≤ TOPn)) = true then ofB (lo * 2 ^ (sh5 c).toNat) (hi * 2 ^ (sh5 c).toNat) else
  if (decide (op = "divu") && decide (0 < c)) = true then ofB (lo / c) (hi / c) else
  if (decide (op = "remu") && decide (0 < c)) = true then (if hi < c then ofB lo hi else ofB 0 (c - 1)) else
  .top
def rorF (op : Str) (ws vs : List Int) : List Int := ws.flatMap fun x => vs.map (comp op x)
section
variable {Z : Zx} [W : W0 Z]
abbrev cMask : Ct := fun xs S R => ∃ a b : Int, xs = [.d (.int a), .d (.int b)] ∧ okW a ∧ okW b ∧ R (.d (.int (maskF a b))) S
instance ok_low_mask : HasFn Z "low_mask" ["a", "b"] 1 cMask := fn_intro sc_low_mask nm_low_mask (fun _ _ _ _ _ _ us hl => match us, hl with | [_, _], _ => rfl) (by tm_at "ctl") fun X _ xs S R hc => by
  obtain ⟨a, b, rfl, ha, hb, hR⟩ := hc
  have h1 : okW (mxI a b) := by
    show okW (if b > a then b else a)
    split
    · exact hb
    · exact ha
  have h2 : Builtin.Int.intBits (mxI a b) ≤ 64 := by
    have := h1.1
    have := h1.2
    unfold TOPn at this
    exact intBits_le_64 (by omega) (by omega)
  exact sws_one (sw_retE (ev_sub (ev_shl (by tm_at "ev") (ev_bits (by tm_at "ev")) ⟨by omega, by omega, by decide⟩) (by tm_at "ev")) rfl hR)
abbrev cOnes : Ct := fun xs S R => ∃ c : Int, xs = [.d (.int c)] ∧ R (.d (.int (onesF c))) S
instance ok_ones_of : HasFn Z "ones_of" ["c"] 1 cOnes := fn_intro sc_ones_of nm_ones_of (fun _ _ _ _ _ _ us hl => match us, hl with | [_], _ => rfl) (by tm_at "ctl") fun X _ xs S R hc => by
  obtain ⟨c, rfl, hR⟩ := hc
  refine sws_one (sw_retE (ev_lenL (ev_lcF (D := fun i : Nat => .int (0 + (i : Int))) (ts := List.range 32) (P := bitB c) (F := fun i : Nat => .int (0 + (i : Int))) [("k", 1)] [true, true] [false, true] [] (by decide +kernel) (by decide +kernel) (by decide) (iw_range1 (n := 32) (by tm_at "ev") (by decide) (by decide)) (by decide) (fun X1 _ t ht => by unfold bitB; tm_at "tv") fun X1 _ t ht _ => by tm_at "ev")) (by rw [List.length_map]; rfl) hR)
abbrev cParts : Ct := fun xs S R => ∃ c : Int, xs = [.d (.int c)] ∧ onesF c ≤ 4 ∧ R (.d (.list ((partsF c).map PyData.int))) S
instance ok_parts_of : HasFn Z "parts_of" ["c"] 1 cParts := fn_intro sc_parts_of nm_parts_of (fun _ _ _ _ _ _ us hl => match us, hl with | [_], _ => rfl) (by tm_at "ctl") fun X _ xs S R hc => by
  obtain ⟨c, rfl, h4, hR⟩ := hc
  refine sws_newL (xs := [.d (.int 0)]) (by tm_at "av") (by decide) fun q hq => ?_
  refine sws_cons (sw_forT (D := fun i : Nat => .int (0 + (i : Int))) (ts := List.range 32) (iw_range1 (n := 32) (by tm_at "ev") (by decide) (by decide))
    (fun r δ' S' => ∃ (l : List Nat) (acc : List Int) (p : Addr) (u : Option SV), List.range 32 = l ++ r ∧ acc = l.foldl (partS c) [0] ∧ δ' = [some (.d (.int c)), some (.r p), u, none] ∧ S' p = some (.lst ((acc.map PyData.int).map SV.d)) ∧ SLe S S' ∧ S p = none)
    ⟨[], [0], q, none, rfl, rfl, rfl, supd_same, (SLe.refl S).new hq, hq⟩ (fun _ _ _ _ => trivial) ?_ ?_)
  · rintro i r δ' S' ⟨l, acc, p, u, e1, e2, rfl, h1, h2, h3⟩
    have e3 : (l ++ [i]).foldl (partS c) [0] = partS c acc i := by rw [List.foldl_append, ← e2]; rfl
    have la : acc.length ≤ 16 := by
      have k1 := parts_len (c := c) l [0]
      rw [← e2] at k1
      have k2 : onesF c = (l.filter (bitB c)).length + ((i :: r).filter (bitB c)).length := by
        unfold onesF; rw [e1, List.filter_append, List.length_append]
      have k3 : 2 ^ (l.filter (bitB c)).length ≤ 2 ^ 4 := Nat.pow_le_pow_right (by decide) (by omega)
      rw [k1]; simpa using k3
    refine ew_tg (sws_cons (sw_if (x := bitB c i) (by unfold bitB; tm_at "tv") (fun h => ?_) fun h => sws_nil (sws_nil ?_)))
    · unfold partS at e3
      rw [if_pos h] at e3
      refine sws_one (sw_set (ew_catO (EV.use (ev_var rfl) (ew_lcMG (ts := acc) (D := PyData.int) (F := fun w => .int (Builtin.bitOr w (1 * 2 ^ (0 + (i : Int)).toNat))) [("w", 3)] [false, false, true, true] [false, false, false, true] [] (by decide +kernel) (by decide +kernel) (by decide) (iw_own (by tm_at "ev") h1) h1 (Nat.lt_of_le_of_lt la (by decide)) (fun X1 _ t ht => ev_or (by tm_at "ev") (ev_shl (by tm_at "ev") (by tm_at "ev") ⟨by omega, ?_, by decide⟩)) fun p2 hp2 => ?_))))
      · have : i ∈ List.range 32 := by rw [e1]; simp
        have := List.mem_range.mp this
        omega
      · refine ⟨p, p2, _, _, rfl, rfl, (SLe.refl S').new hp2 _ _ h1, supd_same, ?_, fun l3 hl3 => ?_⟩
        · simp only [List.length_map]; unfold sizeLine; omega
        · have k2 := h2.new (o := .lst ((acc.map fun w => PyData.int (Builtin.bitOr w (1 * 2 ^ (0 + (i : Int)).toNat))).map SV.d)) (h2.free hp2)
          refine sws_nil ⟨l ++ [i], acc ++ acc.map _, l3, _, by rw [e1]; simp, e3.symm, rfl, ?_, k2.new (k2.free hl3), k2.free hl3⟩
          have e : (acc.map fun w => PyData.int (Builtin.bitOr w (1 * 2 ^ (0 + (i : Int)).toNat))) = (acc.map fun w => Builtin.bitOr w (1 * 2 ^ (0 + (i : Int)).toNat)).map PyData.int := by rw [List.map_map]; rfl
          rw [List.map_append, List.map_append, e]
          exact supd_same
    · unfold partS at e3
      rw [if_neg (by rw [h]; decide)] at e3
      exact ⟨l ++ [i], acc, p, _, by rw [e1]; simp, e3.symm, rfl, h1, h2, h3⟩
  · rintro δ' S' ⟨l, acc, p, u, e1, e2, rfl, h1, h2, h3⟩
    rw [List.append_nil] at e1
    refine sws_frz (i := 1) rfl h1 h2 h3 (sws_one (sw_retE (ev_var rfl) ?_ hR))
    unfold partsF
    rw [e1, e2]
abbrev cResW : Ct := fun xs S R => ∃ (op : Str) (lo hi c : Int), xs = [.d (.str op), .d (.int lo), .d (.int hi), .d (.int c)] ∧ okW lo ∧ okW hi ∧ okW c ∧ R (.d (resW op lo hi c).D) S
instance ok_result_by_word : HasFn Z "result_by_word" ["op", "lo", "hi", "c"] 2 cResW := fn_intro sc_result_by_word nm_result_by_word (fun _ _ _ _ _ _ us hl => match us, hl with | [_, _, _, _], _ => rfl) (by tm_at "ctl") fun X _ xs S R hc => by
  obtain ⟨op, lo, hi, c, rfl, hl, hh, hcw, hR⟩ := hc
  have ⟨y1, y2⟩ := sh5_ok hcw
  have al := okW_abs hl
  have ah := okW_abs hh
  have hc2 := hcw.2
  unfold TOPn at hc2
  unfold resW at hR
  refine' sws_if2 ?a1 (fun h => ?b1) fun h => ?c1
  case a1 => tm_at "tv"
  case' c1 => rw [if_neg (of_decide_eq_false h)] at hR
  case' b1 => rw [if_pos (of_decide_eq_true h)] at hR
  · exact sws_one (sw_retE (ev_call (av_cons (ev_shr (by tm_at "ev") (by tm_at "ev") y1) (av_cons (ev_shr (by tm_at "ev") (by tm_at "ev") y1) av_nil)) (by tm_at "ct")) rfl hR)
  refine' sws_if2 (x := decide (op = "shl") && decide (hi * 2 ^ (sh5 c).toNat ≤ TOPn)) ?xa (fun h => ?xb) fun h => ?xc
  case xa => exact tv_w (wv_and (by tm_at "tv") fun _ => wv_and1 (tv_cmp (cv_le (ev_shl (by tm_at "ev") (by tm_at "ev") ⟨y1, by omega, ah⟩) (by tm_at "ev"))))
  case xb =>
    rw [if_pos h] at hR
    exact sws_one (sw_retE (ev_call (av_cons (ev_shl (by tm_at "ev") (by tm_at "ev") ⟨y1, by omega, al⟩) (av_cons (ev_shl (by tm_at "ev") (by tm_at "ev") ⟨y1, by omega, ah⟩) av_nil)) (by tm_at "ct")) rfl hR)
  rw [if_neg (by rw [h]; decide)] at hR
  refine' sws_if2 (x := decide (op = "divu") && decide (0 < c)) ?ya (fun h => ?yb) fun h => ?yc
  case ya => tm_at "tv"
  case yb =>
    rw [if_pos h] at hR
    have h0 : 0 < c := of_decide_eq_true (Bool.and_eq_true_iff.mp h).2
    exact sws_one (sw_retE (ev_call (av_cons (ev_fdivP (by tm_at "ev") (by tm_at "ev") h0 (by omega)) (av_cons (ev_fdivP (by tm_at "ev") (by tm_at "ev") h0 (by omega)) av_nil)) (by tm_at "ct")) rfl hR)
  rw [if_neg (by rw [h]; decide)] at hR
  refine' sws_if2 (x := decide (op = "remu") && decide (0 < c)) ?za (fun h => ?zb) fun h => ?zc
  case za => tm_at "tv"
  case zb =>
    rw [if_pos h] at hR
    refine' sws_if2 ?a2 (fun h => ?b2) fun h => ?c2
    case a2 => tm_at "tv"
    case' c2 => rw [if_neg (of_decide_eq_false h)] at hR
    case' b2 => rw [if_pos (of_decide_eq_true h)] at hR
    · tm_at "ret"
    · tm_at "ret"
  rw [if_neg (by rw [h]; decide)] at hR
  tm_at "ret"
end
end K23
/-! facts: result, decided -/
namespace K23
open PySem PySem.Spec PyProof.Rows L2
theorem flat_len {β : Type} {g : Int → Int → β} {vs : List Int} : ∀ l : List Int, (l.flatMap fun x => vs.map (g x)).length = l.length * vs.length
  | [] => by simp
  | x :: l => by rw [List.flatMap_cons, List.length_append, flat_len l, List.length_map, List.length_cons, Nat.succ_mul, Nat.add_comm]
def rowsB (a b : Fact) (n : Nat) : Bool := match a, b with
  | .words ws, .words vs => decide (ws.length * vs.length ≤ n)
  | _, _ => false
def resB (op : Str) (low high lo hi : Int) : Fact :=
  if (decide (op = "add") && decide (high + hi ≤ TOPn)) = true then ofB (low + lo) (high + hi) else
  if (decide (op = "sub") && decide (hi ≤ low)) = true then ofB (low - hi) (high - lo) else
  if (decide (op = "and") && (decide (lo = hi) && decide (onesF lo ≤ 4))) = true then ofWs (partsF lo) else
  if op = "and" then ofB 0 (mnI high hi) else
  if inS op ["or", "xor"] = true then ofB 0 (maskF high hi) else
  if inS op ["slt", "sltu"] = true then .words [0, 1] else
  if lo = hi then resW op low high lo else .top
def resF (op : Str) (a b : Fact) : Fact := match a, b with
  | .words ws, .words vs => if ws.length * vs.length ≤ 64 then ofWs (rorF op ws vs) else resB op a.lo a.hi b.lo b.hi
  | a, b => resB op a.lo a.hi b.lo b.hi
theorem resF_rows {op : Str} {ws vs : List Int} (h : ws.length * vs.length ≤ 64) : resF op (.words ws) (.words vs) = ofWs (rorF op ws vs) := if_pos h
theorem resF_rest {op : Str} {a b : Fact} (h : rowsB a b 64 = false) : resF op a b = resB op a.lo a.hi b.lo b.hi := by
  cases a <;> cases b <;> first | rfl | exact if_neg (of_decide_eq_false h)
def hrF (op : Str) (ws vs : List Int) : List Bool := ws.flatMap fun x => vs.map (holdF op x)
def inBl (x : Bool) (l : List Bool) : Bool := (l.map PyData.bool).any fun e => PyData.eqv e (.bool x)
def decB (op : Str) (low high lo hi : Int) : Option Bool :=
  if inS op ["bltu", "bgeu"] = true then (if high < lo then some (decide (op = "bltu")) else if hi ≤ low then some (decide (op = "bgeu")) else none) else none
def decF (op : Str) (a b : Fact) : Option Bool := match a, b with
  | .words ws, .words vs => if ws.length * vs.length ≤ 256 then (if (inBl true (hrF op ws vs) && inBl false (hrF op ws vs)) = true then none else some (inBl true (hrF op ws vs))) else decB op a.lo a.hi b.lo b.hi
  | a, b => decB op a.lo a.hi b.lo b.hi
theorem decF_rest {op : Str} {a b : Fact} (h : rowsB a b 256 = false) : decF op a b = decB op a.lo a.hi b.lo b.hi := by
  cases a <;> cases b <;> first | rfl | exact if_neg (of_decide_eq_false h)
def optB : Option Bool → PyData
  | none => .none
  | some b => .bool b
section
variable {Z : Zx} [W : W0 Z]
abbrev cRor : Ct := fun xs S R => ∃ (op : Str) (ws vs : List Int), xs = [.d (.str op), .d (Fact.words ws).D, .d (Fact.words vs).D] ∧ op ∈ alu13 ∧ (Fact.words ws).ok ∧ (Fact.words vs).ok ∧ ws.length * vs.length ≤ 64 ∧ R (.d (ofWs (rorF op ws vs)).D) S
instance ok_result_of_rows : HasFn Z "result_of_rows" ["op", "a", "b"] 4 cRor := fn_intro sc_result_of_rows nm_result_of_rows (fun _ _ _ _ _ _ us hl => match us, hl with | [_, _, _], _ => rfl) (by tm_at "ctl") fun X _ xs S R hc => by
  obtain ⟨op, ws, vs, rfl, ho, hw, hv, hz, hR⟩ := hc
  refine sws_newL (xs := []) av_nil (by decide) fun q hq => ?_
  refine sws_cons (sw_forT (D := PyData.int) (ts := ws) (iw_tup (by tm_at "ev"))
    (fun r δ' S' => ∃ (l : List Int) (u v : Option SV), ws = l ++ r ∧ δ' = [some (.d (.str op)), some (.d (Fact.words ws).D), some (.d (Fact.words vs).D), some (.r q), u, v] ∧ S' = supd S q (.lst (((l.flatMap fun x => vs.map (comp op x)).map PyData.int).map SV.d)))
    ⟨[], none, none, rfl, rfl, rfl⟩ (fun _ _ _ _ => trivial) ?_ ?_)
  · rintro x r δ' S' ⟨l, u, v, e1, rfl, rfl⟩
    have hx : x ∈ ws := by rw [e1]; simp
    refine ew_tg (sws_one (sw_forT (D := PyData.int) (ts := vs) (iw_tup (by tm_at "ev"))
      (fun r2 δ' S' => ∃ (l2 : List Int) (v : Option SV), vs = l2 ++ r2 ∧ δ' = [some (.d (.str op)), some (.d (Fact.words ws).D), some (.d (Fact.words vs).D), some (.r q), some (.d (.int x)), v] ∧ S' = supd S q (.lst ((((l.flatMap fun x => vs.map (comp op x)) ++ l2.map (comp op x)).map PyData.int).map SV.d)))
      ⟨[], v, rfl, rfl, by rw [List.map_nil, List.append_nil]⟩ (fun _ _ _ _ => trivial) ?_ ?_))
    · rintro y r2 δ' S' ⟨l2, v, e2, rfl, rfl⟩
      have hy : y ∈ vs := by rw [e2]; simp
      refine ew_tg (sws_app (xs := (((l.flatMap fun x => vs.map (comp op x)) ++ l2.map (comp op x)).map PyData.int).map SV.d) (v := .d (PyData.int (comp op x y))) (by tm_at "ev") supd_same (ev_call (by tm_at "av") ⟨op, x, y, rfl, ho, hw.1.2.1 x hx, hv.1.2.1 y hy, rfl, rfl⟩) ?_ (sws_nil ⟨l2 ++ [y], _, by rw [e2]; simp, rfl, ?_⟩))
      · rw [List.length_map, List.length_map, List.length_append, List.length_map]
        have k1 : (l.flatMap fun x => vs.map (comp op x)).length = l.length * vs.length := flat_len l
        have k2 : l.length < ws.length := by rw [e1, List.length_append, List.length_cons]; omega
        have k3 : l2.length < vs.length := by rw [e2, List.length_append, List.length_cons]; omega
        have k4 : (l.length + 1) * vs.length ≤ ws.length * vs.length := Nat.mul_le_mul_right _ k2
        rw [k1]
        rw [Nat.succ_mul] at k4
        unfold sizeLine
        omega
      · rw [supd_supd]
        refine congrArg (fun z => supd S q (.lst z)) ?_
        simp only [List.map_append, List.map_cons, List.map_nil, List.append_assoc]
    · rintro δ' S' ⟨l2, v, e2, rfl, rfl⟩
      rw [List.append_nil] at e2
      refine ⟨l ++ [x], _, _, by rw [e1]; simp, rfl, ?_⟩
      rw [← e2, List.flatMap_append, List.flatMap_singleton]
  · rintro δ' S' ⟨l, u, v, e1, rfl, rfl⟩
    rw [List.append_nil] at e1
    subst e1
    refine sws_frz (i := 3) (S' := S) rfl supd_same ((SLe.refl S).new hq) hq (sws_one (sw_retE (ev_call (by tm_at "av") ⟨rorF op ws vs, rfl, ?_, rfl, rfl⟩) rfl hR))
    have k : (rorF op ws vs).length = ws.length * vs.length := flat_len ws
    omega
abbrev cRes : Ct := fun xs S R => ∃ (op : Str) (a b : Fact), xs = [.d (.str op), .d a.D, .d b.D] ∧ op ∈ alu13 ∧ a.ok ∧ b.ok ∧ R (.d (resF op a b).D) S
instance ok_result : HasFn Z "result" ["op", "a", "b"] 5 cRes := fn_intro sc_result nm_result (fun _ _ _ _ _ _ us hl => match us, hl with | [_, _, _], _ => rfl) (by tm_at "ctl") fun X _ xs S R hc => by
  obtain ⟨op, a, b, rfl, ho, ha, hb, hR⟩ := hc
  have ⟨a1, a2, a3⟩ := ok_lo ha
  have ⟨b1, b2, b3⟩ := ok_lo hb
  have fa := ha.2
  have fb := hb.2
  refine' sws_if2 (x := rowsB a b 64) ?ra (fun h => ?rb) fun h => ?rc
  case ra =>
    refine TV.is (x := a.isRow && (b.isRow && rowsB a b 64)) (tv_w (wv_and (by tm_at "tv") fun h1 => wv_and (by tm_at "tv") fun h2 => wv_and1 ?_)) (by cases a <;> cases b <;> rfl)
    cases a <;> cases b <;> first | exact absurd h1 Bool.false_ne_true | exact absurd h2 Bool.false_ne_true | skip
    rename_i ws vs
    refine TV.is (x := decide (((ws.map PyData.int).length : Int) * ((vs.map PyData.int).length : Int) ≤ 64)) (tv_cmp (cv_le (ev_mul (by tm_at "ev") (by tm_at "ev") (.inl ?_)) (by tm_at "ev"))) ?_
    · have := ha.1.2.2
      rw [List.length_map]
      omega
    · rw [List.length_map, List.length_map]
      exact decide_eq_decide.mpr (by rw [← Int.natCast_mul]; omega)
  case rb =>
    cases a <;> cases b <;> first | exact absurd h Bool.false_ne_true | skip
    rename_i ws vs
    rw [resF_rows (of_decide_eq_true h)] at hR
    exact sws_one (sw_retE (ev_call (by tm_at "av") ⟨op, ws, vs, rfl, ho, ha, hb, of_decide_eq_true h, rfl, rfl⟩) rfl hR)
  rw [resF_rest h] at hR
  unfold resB at hR
  tm_at "un2"
  tm_at "un2"
  refine' sws_if2 ?a5 (fun h => ?b5) fun h => ?c5
  case a5 => tm_at "tv"
  case' c5 => rw [if_neg (by rw [h]; decide)] at hR
  case' b5 => rw [if_pos h] at hR
  · tm_at "ret"
  refine' sws_if2 ?a6 (fun h => ?b6) fun h => ?c6
  case a6 => tm_at "tv"
  case' c6 => rw [if_neg (by rw [h]; decide)] at hR
  case' b6 => rw [if_pos h] at hR
  · tm_at "ret"
  refine' sws_if2 (x := decide (op = "and") && (decide (b.lo = b.hi) && decide (onesF b.lo ≤ 4))) ?sa (fun h => ?sb) fun h => ?sc
  case sa =>
    refine tv_w (wv_and (by tm_at "tv") fun _ => wv_and (by tm_at "tv") fun _ => wv_and1 (TV.is (x := decide ((onesF b.lo : Int) ≤ 4)) (by tm_at "tv") (decide_eq_decide.mpr (by omega))))
  case sb =>
    rw [if_pos h] at hR
    have h4 : onesF b.lo ≤ 4 := of_decide_eq_true (Bool.and_eq_true_iff.mp (Bool.and_eq_true_iff.mp h).2).2
    have z := parts_len (c := b.lo) (List.range 32) [0]
    have z2 : 2 ^ onesF b.lo ≤ 2 ^ 4 := Nat.pow_le_pow_right (by decide) h4
    exact sws_one (sw_retE (ev_call (av_cons (ev_call (by tm_at "av") ⟨b.lo, rfl, h4, rfl, rfl⟩) av_nil) ⟨partsF b.lo, rfl, by unfold partsF; rw [z]; show 1 * 2 ^ onesF b.lo ≤ 4000; omega, rfl, rfl⟩) rfl hR)
  rw [if_neg (by rw [h]; decide)] at hR
  refine' sws_if2 ?a1 (fun h => ?b1) fun h => ?c1
  case a1 => tm_at "tv"
  case' c1 => rw [if_neg (of_decide_eq_false h)] at hR
  case' b1 => rw [if_pos (of_decide_eq_true h)] at hR
  · tm_at "ret"
  refine' sws_if2 (x := inS op ["or", "xor"]) ?a7 (fun h => ?b7) fun h => ?c7
  case a7 => tm_at "tv"
  case' c7 => rw [if_neg (by rw [h]; decide)] at hR
  case' b7 => rw [if_pos h] at hR
  · exact sws_one (sw_retE (ev_call (av_cons ev_int (av_cons (ev_call (by tm_at "av") ⟨a.hi, b.hi, rfl, ⟨by omega, a3⟩, ⟨by omega, b3⟩, rfl, rfl⟩) av_nil)) (by tm_at "ct")) rfl hR)
  refine' sws_if2 (x := inS op ["slt", "sltu"]) ?a8 (fun h => ?b8) fun h => ?c8
  case a8 => tm_at "tv"
  case' c8 => rw [if_neg (by rw [h]; decide)] at hR
  case' b8 => rw [if_pos h] at hR
  · tm_at "ret"
  refine' sws_if2 ?a2 (fun h => ?b2) fun h => ?c2
  case a2 => tm_at "tv"
  case' c2 => rw [if_neg (of_decide_eq_false h)] at hR
  case' b2 => rw [if_pos (of_decide_eq_true h)] at hR
  · exact sws_one (sw_retE (ev_call (by tm_at "av") ⟨op, a.lo, a.hi, b.lo, rfl, ⟨a1, by omega⟩, ⟨by omega, a3⟩, ⟨b1, by omega⟩, rfl, rfl⟩) rfl hR)
  · tm_at "ret"
abbrev cDec : Ct := fun xs S R => ∃ (op : Str) (a b : Fact), xs = [.d (.str op), .d a.D, .d b.D] ∧ a.ok ∧ b.ok ∧ R (.d (optB (decF op a b))) S
instance ok_decided : HasFn Z "decided" ["cond", "a", "b"] 3 cDec := fn_intro sc_decided nm_decided (fun _ _ _ _ _ _ us hl => match us, hl with | [_, _, _], _ => rfl) (by tm_at "ctl") fun X _ xs S R hc => by
  obtain ⟨op, a, b, rfl, ha, hb, hR⟩ := hc
  have fa := ha.2
  have fb := hb.2
  refine' sws_if2 (x := rowsB a b 256) ?ra (fun h => ?rb) fun h => ?rc
  case ra =>
    refine TV.is (x := a.isRow && (b.isRow && rowsB a b 256)) (tv_w (wv_and (by tm_at "tv") fun h1 => wv_and (by tm_at "tv") fun h2 => wv_and1 ?_)) (by cases a <;> cases b <;> rfl)
    cases a <;> cases b <;> first | exact absurd h1 Bool.false_ne_true | exact absurd h2 Bool.false_ne_true | skip
    rename_i ws vs
    refine TV.is (x := decide (((ws.map PyData.int).length : Int) * ((vs.map PyData.int).length : Int) ≤ 256)) (tv_cmp (cv_le (ev_mul (by tm_at "ev") (by tm_at "ev") (.inl ?_)) (by tm_at "ev"))) ?_
    · have := ha.1.2.2
      rw [List.length_map]
      omega
    · rw [List.length_map, List.length_map]
      exact decide_eq_decide.mpr (by rw [← Int.natCast_mul]; omega)
  case rb =>
    cases a <;> cases b <;> first | exact absurd h Bool.false_ne_true | skip
    rename_i ws vs
    have hz : ws.length * vs.length ≤ 256 := of_decide_eq_true h
    have e0 : decF op (.words ws) (.words vs) = if (inBl true (hrF op ws vs) && inBl false (hrF op ws vs)) = true then none else some (inBl true (hrF op ws vs)) := if_pos hz
    rw [e0] at hR
    refine sws_newL (xs := []) av_nil (by decide) fun q hq => ?_
    refine sws_cons (sw_forT (D := PyData.int) (ts := ws) (iw_tup (by tm_at "ev"))
      (fun r δ' S' => ∃ (l : List Int) (u v : Option SV), ws = l ++ r ∧ δ' = [some (.d (.str op)), some (.d (Fact.words ws).D), some (.d (Fact.words vs).D), some (.r q), u, v, none, none, none, none] ∧ S' = supd S q (.lst (((l.flatMap fun x => vs.map (holdF op x)).map PyData.bool).map SV.d)))
      ⟨[], none, none, rfl, rfl, rfl⟩ (fun _ _ _ _ => trivial) ?_ ?_)
    · rintro x r δ' S' ⟨l, u, v, e1, rfl, rfl⟩
      have hx : x ∈ ws := by rw [e1]; simp
      refine ew_tg (sws_one (sw_forT (D := PyData.int) (ts := vs) (iw_tup (by tm_at "ev"))
        (fun r2 δ' S' => ∃ (l2 : List Int) (v : Option SV), vs = l2 ++ r2 ∧ δ' = [some (.d (.str op)), some (.d (Fact.words ws).D), some (.d (Fact.words vs).D), some (.r q), some (.d (.int x)), v, none, none, none, none] ∧ S' = supd S q (.lst ((((l.flatMap fun x => vs.map (holdF op x)) ++ l2.map (holdF op x)).map PyData.bool).map SV.d)))
        ⟨[], v, rfl, rfl, by rw [List.map_nil, List.append_nil]⟩ (fun _ _ _ _ => trivial) ?_ ?_))
      · rintro y r2 δ' S' ⟨l2, v, e2, rfl, rfl⟩
        have hy : y ∈ vs := by rw [e2]; simp
        refine ew_tg (sws_app (xs := (((l.flatMap fun x => vs.map (holdF op x)) ++ l2.map (holdF op x)).map PyData.bool).map SV.d) (v := .d (PyData.bool (holdF op x y))) (by tm_at "ev") supd_same (by tm_at "ev") ?_ (sws_nil ⟨l2 ++ [y], _, by rw [e2]; simp, rfl, ?_⟩))
        · rw [List.length_map, List.length_map, List.length_append, List.length_map]
          have k1 : (l.flatMap fun x => vs.map (holdF op x)).length = l.length * vs.length := flat_len l
          have k2 : l.length < ws.length := by rw [e1, List.length_append, List.length_cons]; omega
          have k3 : l2.length < vs.length := by rw [e2, List.length_append, List.length_cons]; omega
          have k4 : (l.length + 1) * vs.length ≤ ws.length * vs.length := Nat.mul_le_mul_right _ k2
          rw [k1]
          rw [Nat.succ_mul] at k4
          unfold sizeLine
          omega
        · rw [supd_supd]
          refine congrArg (fun z => supd S q (.lst z)) ?_
          simp only [List.map_append, List.map_cons, List.map_nil, List.append_assoc]
      · rintro δ' S' ⟨l2, v, e2, rfl, rfl⟩
        rw [List.append_nil] at e2
        refine ⟨l ++ [x], _, _, by rw [e1]; simp, rfl, ?_⟩
        rw [← e2, List.flatMap_append, List.flatMap_singleton]
    · rintro δ' S' ⟨l, u, v, e1, rfl, rfl⟩
      rw [List.append_nil] at e1
      subst e1
      refine sws_frz (i := 3) (S' := S) rfl supd_same ((SLe.refl S).new hq) hq ?_
      have fl : ((hrF op ws vs).map PyData.bool).all flatD = true := by rw [List.all_map]; exact List.all_eq_true.mpr fun _ _ => rfl
      refine' sws_if2 (x := inBl true (hrF op ws vs) && inBl false (hrF op ws vs)) ?pa (fun h => ?pb) fun h => ?pc
      case pa => exact tv_w (wv_and (tv_cmp (cv_inL ev_bl (ev_var rfl) rfl fl)) fun _ => wv_and1 (tv_cmp (cv_inL ev_bl (ev_var rfl) rfl fl)))
      case pb =>
        rw [if_pos h] at hR
        tm_at "ret"
      case pc =>
        rw [if_neg (by rw [h]; decide)] at hR
        exact sws_one (sw_retE (ev_cmp (cv_inL ev_bl (ev_var rfl) rfl fl)) rfl hR)
  rw [decF_rest h] at hR
  unfold decB at hR
  tm_at "un2"
  tm_at "un2"
  refine' sws_if2 (x := inS op ["bltu", "bgeu"]) ?a9 (fun h => ?b9) fun h => ?c9
  case a9 => tm_at "tv"
  case' c9 => rw [if_neg (by rw [h]; decide)] at hR
  case' b9 => rw [if_pos h] at hR
  ·
    refine' sws_if2 ?a3 (fun h => ?b3) fun h => ?c3
    case a3 => tm_at "tv"
    case' c3 => rw [if_neg (of_decide_eq_false h)] at hR
    case' b3 => rw [if_pos (of_decide_eq_true h)] at hR
    · tm_at "ret"
    refine' sws_if2 ?a4 (fun h => ?b4) fun h => ?c4
    case a4 => tm_at "tv"
    case' c4 => rw [if_neg (of_decide_eq_false h)] at hR
    case' b4 => rw [if_pos (of_decide_eq_true h)] at hR
    · tm_at "ret"
    · refine sws_nil ?_
      tm_at "ret"
  · tm_at "ret"
end
end K23
/-! the codes -/
namespace K23
open PySem PySem.Spec PyProof.Rows L2
abbrev ops38 : List Str := "add" :: "sub" :: "mul" :: "and" :: "or" :: "xor" :: "shl" :: "shr" :: "sar" :: "slt" :: "sltu" :: "divu" :: "remu" :: "addi" :: "andi" :: "ori" :: "xori" :: "shli" :: "shri" :: "sari" :: "slti" :: "lui" :: "lw" :: "lb" :: "lbu" :: "sw" :: "sb" :: "beq" :: "bne" :: "blt" :: "bge" :: "bltu" :: "bgeu" :: "jal" :: "jalr" :: "get" :: "put" :: "exit" :: []
theorem c_ops : c_OPS = .tuple (ops38.map PyData.str) := rfl
theorem strs_of {K : Fg} {F : Hp} : ∀ {ns : List Str} {vs : List V}, DpAll K F vs (ns.map PyData.str) → vs = ns.map V.str
  | [], _, h => by cases h; rfl
  | n :: ns, _, h => by
    cases h with
    | cons a b => cases a; rw [strs_of b]; rfl
def ixOp (op : Str) : Nat := (ops38.findIdx? fun z => z == op).getD 0
theorem ixOp_ok : ∀ op ∈ ops38, ops38[ixOp op]? = some op ∧ ixOp op < 38 ∧ ∀ m < ixOp op, ops38[m]? ≠ some op := by decide +kernel
structure Ins where
  op : Str
  a : Int
  b : Int
  c : Int
abbrev s3 : List Str := ["get", "put", "exit"]
abbrev sJ : List Str := ["lui", "jal"]
def Ins.D (i : Ins) : PyData := if inS i.op s3 = true then .tuple [.str i.op, .int i.a] else if inS i.op sJ = true then .tuple [.str i.op, .int i.a, .int i.b] else .tuple [.str i.op, .int i.a, .int i.b, .int i.c]
def encF (i : Ins) : Int :=
  if inS i.op s3 = true then ((ixOp i.op : Int) + 1) * 2 ^ (26 : Int).toNat + i.a * 2 ^ (22 : Int).toNat else
  if inS i.op sJ = true then ((ixOp i.op : Int) + 1) * 2 ^ (26 : Int).toNat + i.a * 2 ^ (22 : Int).toNat + Builtin.bitAnd i.b 262143 else
  if inS i.op alu13 = true then ((ixOp i.op : Int) + 1) * 2 ^ (26 : Int).toNat + i.a * 2 ^ (22 : Int).toNat + i.b * 2 ^ (18 : Int).toNat + i.c * 2 ^ (14 : Int).toNat else
  ((ixOp i.op : Int) + 1) * 2 ^ (26 : Int).toNat + i.a * 2 ^ (22 : Int).toNat + i.b * 2 ^ (18 : Int).toNat + Builtin.bitAnd i.c 16383
/-- small enough to be shifted -/
def Ins.sm (i : Ins) : Prop := i.op ∈ ops38 ∧ i.a.natAbs < 2 ^ 64 ∧ i.b.natAbs < 2 ^ 64 ∧ i.c.natAbs < 2 ^ 64
theorem inS_iff {op : Str} {l : List Str} : inS op l = true ↔ op ∈ l := by
  unfold inS
  rw [List.any_map, List.any_eq_true]
  constructor
  · rintro ⟨x, hx, h⟩
    have e : x = op := of_decide_eq_true h
    exact e ▸ hx
  · intro h
    exact ⟨op, h, decide_eq_true (rfl : op = op)⟩
theorem inS_no {op : Str} {l : List Str} : inS op l = false ↔ op ∉ l := by
  rw [← inS_iff]; simp
section
variable {Z : Zx} [W : W0 Z]
theorem ev_opsIx {X : Cx} {N : List Str} {sc : Scope} {bs ls : List Bool} {gs : List Str} {k : Nat} [B : Bd Z X N sc bs ls gs k] {b : Expr} {δ : Dl} {S : Sto} {pos p apos : Pos} {z : Str} [g : GAt gs "OPS"] (hb : EV X b δ S (.d (.str z))) (hz : z ∈ ops38)
    (hbase : attributeBase (.Name "OPS" p) "index" X.env (eval (.Name "OPS" p) X.env) = eval (.Name "OPS" p) X.env := by rfl)
    (hfew : ((backTo pos (starEach [b] X.env)).all (fun x => !x.1) && (backToKw pos (keywordEach [] X.env)).all (fun x => x.1.isSome) && decide (([b] : List Expr).length + ([] : List Keyword).length + (if ([] : List Keyword).isEmpty then 0 else 1) < 30)) = true := by rfl)
    (hline : (apos.endLine == pos.line) = true := by rfl) (s1 : St1 X b := by exact rfl) : EV X (.Call (.Attribute (.Name "OPS" p) "index" apos) [b] [] pos) δ S (.d (.int (ixOp z : Nat))) := .mk fun O σ H F Q M s kq => by
  obtain ⟨g1, g2, g3⟩ := B.gl "OPS" g.h
  obtain ⟨u, hu, hd⟩ := cst_raw (Z := Z) (x := "OPS") (d := c_OPS) 2 rfl
  rw [c_ops] at hd
  cases u with
  | ref a =>
    obtain ⟨its, n, sl, hl, hz2, hall⟩ := tup_look hd
    obtain ⟨vs, rv, hdp⟩ := dpAllB_ok _ _ hall
    have ev := strs_of (hdp F)
    subst ev
    obtain ⟨k1, k2, k3⟩ := ixOp_ok z hz
    refine to_e (pe_bm PySem.F.plainAttrs_tuple PySem.F.slot_tuple_index PySem.F.type_tuple_index mt_tup_index (pe_glob (v := .ref a) g1 (by rw [B.mg]; exact hu) rfl g2) (pa_cons pw_e pa_nil s1) hbase hfew hline s1 rfl) ?_
    refine ⟨.inr (.inl ⟨rfl, _, by rw [B.K]; exact hl, rfl, rfl⟩), ?_⟩
    refine hb O σ H F _ M s fun v S1 u H1 F1 e1 M1 r1 q => ?_
    obtain ⟨rfl, rfl⟩ := q
    cases r1
    exact ⟨a, ops38, z, ixOp z, rfl, rfl, .inr ⟨_, its, n, by rw [B.K]; exact hl, rfl, rfl, hz2, rv⟩, k1, k3, (kq.at e1).dat M1 (.int _) ⟨rfl, rfl⟩⟩
  | _ => exact absurd hd Bool.false_ne_true
abbrev cEnc : Ct := fun xs S R => ∃ i : Ins, xs = [.d i.D] ∧ i.sm ∧ R (.d (.int (encF i))) S
instance ok_encode : HasFn Z "encode" ["instruction"] 1 cEnc := fn_intro sc_encode nm_encode (fun _ _ _ _ _ _ us hl => match us, hl with | [_], _ => rfl) (by tm_at "ctl") fun X _ xs S R hc => by
  obtain ⟨i, rfl, ⟨h1, h2, h3, h4⟩, hR⟩ := hc
  obtain ⟨k1, k2, k3⟩ := ixOp_ok _ h1
  have kk : ((ixOp i.op : Int) + 1).natAbs < 2 ^ 64 := by omega
  unfold encF at hR
  unfold Ins.D
  by_cases c1 : inS i.op s3 = true
  · rw [if_pos c1] at hR ⊢
    tm_at "set"
    refine sws_cons (sw_set (EV.use (ev_shl (ev_add (ev_opsIx (by tm_at "ev") h1) (by tm_at "ev")) (by tm_at "ev") ⟨by decide, by decide, kk⟩) ?_))
    refine sws_cons (sw_augI rfl (ev_shl (by tm_at "ev") (by tm_at "ev") ⟨by decide, by decide, h2⟩) ?_)
    refine sws_ifT (by tm_at "tv") c1 (by tm_at "ret")
  have c1' : inS i.op s3 = false := by simpa using c1
  rw [if_neg c1] at hR ⊢
  by_cases c2 : inS i.op sJ = true
  · rw [if_pos c2] at hR ⊢
    tm_at "set"
    refine sws_cons (sw_set (EV.use (ev_shl (ev_add (ev_opsIx (by tm_at "ev") h1) (by tm_at "ev")) (by tm_at "ev") ⟨by decide, by decide, kk⟩) ?_))
    refine sws_cons (sw_augI rfl (ev_shl (by tm_at "ev") (by tm_at "ev") ⟨by decide, by decide, h2⟩) ?_)
    refine sws_ifN (by tm_at "tv") c1' ?_
    refine sws_ifT (by tm_at "tv") c2 (by tm_at "ret")
  have c2' : inS i.op sJ = false := by simpa using c2
  rw [if_neg c2] at hR ⊢
  tm_at "set"
  refine sws_cons (sw_set (EV.use (ev_shl (ev_add (ev_opsIx (by tm_at "ev") h1) (by tm_at "ev")) (by tm_at "ev") ⟨by decide, by decide, kk⟩) ?_))
  refine sws_cons (sw_augI rfl (ev_shl (by tm_at "ev") (by tm_at "ev") ⟨by decide, by decide, h2⟩) ?_)
  refine sws_ifN (by tm_at "tv") c1' ?_
  refine sws_ifN (by tm_at "tv") c2' ?_
  refine sws_cons (sw_augI rfl (ev_shl (by tm_at "ev") (by tm_at "ev") ⟨by decide, by decide, h3⟩) ?_)
  refine' sws_if2 (x := inS i.op alu13) ?a (fun h => ?b) fun h => ?c
  case a => tm_at "tv"
  case b =>
    rw [if_pos h] at hR
    exact sws_one (sw_retE (ev_add (by tm_at "ev") (ev_shl (by tm_at "ev") (by tm_at "ev") ⟨by decide, by decide, h4⟩)) rfl hR)
  case c =>
    rw [if_neg (by rw [h]; decide)] at hR
    tm_at "ret"
end
end K23
/-! decoding; the image's memory -/
namespace K23
open PySem PySem.Spec PyProof.Rows L2
def sgf (v n : Int) : Int := if (v / 2 ^ (n - 1).toNat != 0) = true then v - 1 * 2 ^ n.toNat else v
def opAt (w : Int) : Str := (ops38[(w / 2 ^ (26 : Int).toNat - 1).toNat]?).getD "add"
def fldA (w : Int) : Int := Builtin.bitAnd (w / 2 ^ (22 : Int).toNat) 15
def fldB (w : Int) : Int := Builtin.bitAnd (w / 2 ^ (18 : Int).toNat) 15
def fieldsI (w : Int) : Ins :=
  if inS (opAt w) s3 = true then ⟨opAt w, fldA w, 0, 0⟩ else
  if opAt w = "lui" then ⟨opAt w, fldA w, Builtin.bitAnd w 262143, 0⟩ else
  if opAt w = "jal" then ⟨opAt w, fldA w, sgf (Builtin.bitAnd w 262143) 18, 0⟩ else
  if inS (opAt w) alu13 = true then ⟨opAt w, fldA w, fldB w, Builtin.bitAnd (w / 2 ^ (14 : Int).toNat) 15⟩ else
  ⟨opAt w, fldA w, fldB w, sgf (Builtin.bitAnd w 16383) 14⟩
def numOk (w : Int) : Bool := decide (1 ≤ w / 2 ^ (26 : Int).toNat) && decide (w / 2 ^ (26 : Int).toNat ≤ 38)
def fieldsF (w : Int) : Option Ins := if numOk w = true then some (fieldsI w) else none
def decodeF (w : Int) : Option Ins := match fieldsF w with
  | none => none
  | some i => if encF i = w then some i else none
def optI : Option Ins → PyData
  | none => .none
  | some i => i.D
theorem bitAnd_bd {x y : Int} (hy : 0 ≤ y) : 0 ≤ Builtin.bitAnd x y ∧ Builtin.bitAnd x y ≤ y := by
  by_cases hx : 0 ≤ x
  · rw [PyProof.Rows.bitAnd_pp hx hy]
    have := @Nat.and_le_right x.toNat y.toNat
    omega
  · rw [PyProof.Rows.bitAnd_np hx hy]
    have := @Nat.and_le_left y.toNat (Builtin.bitNot x).toNat
    omega
theorem opAt_mem (w : Int) : opAt w ∈ ops38 := by
  unfold opAt
  cases h : ops38[(w / 2 ^ (26 : Int).toNat - 1).toNat]? with
  | none => exact List.mem_cons_self
  | some z => exact List.mem_of_getElem? h
theorem sgf_bd {v n m : Int} (hv : 0 ≤ v ∧ v ≤ m) (hm : m < 2 ^ 40) (hn : n.toNat ≤ 32) : (sgf v n).natAbs < 2 ^ 41 := by
  have h1 : (1 : Int) * 2 ^ n.toNat ≤ 2 ^ 32 := by
    rw [Int.one_mul]
    exact_mod_cast Nat.pow_le_pow_right (by decide) hn
  have h0 : (0 : Int) ≤ 1 * 2 ^ n.toNat := by
    rw [Int.one_mul]; exact_mod_cast Nat.zero_le _
  unfold sgf
  split <;> omega
/-- what decoded instructions keep -/
def Ins.fit (i : Ins) : Prop := i.op ∈ ops38 ∧ (0 ≤ i.a ∧ i.a ≤ 15) ∧ i.b.natAbs < 2 ^ 41 ∧ i.c.natAbs < 2 ^ 41 ∧ (i.op = "lui" → 0 ≤ i.b ∧ i.b ≤ 262143) ∧ (i.op ∉ s3 → i.op ∉ sJ → 0 ≤ i.b ∧ i.b ≤ 15) ∧ (i.op ∈ alu13 → 0 ≤ i.c ∧ i.c ≤ 15)
theorem fieldsI_op (w : Int) : (fieldsI w).op = opAt w := by unfold fieldsI; split <;> (try split) <;> (try split) <;> (try split) <;> rfl
theorem z41 : (0 : Int).natAbs < 2 ^ 41 := by decide
theorem z15 : (0 : Int) ≤ 0 ∧ (0 : Int) ≤ 15 := by decide
theorem fieldsI_fit (w : Int) : (fieldsI w).fit := by
  have hm := opAt_mem w
  have ba := @bitAnd_bd (w / 2 ^ (22 : Int).toNat) 15 (by decide)
  have bb := @bitAnd_bd (w / 2 ^ (18 : Int).toNat) 15 (by decide)
  have bc := @bitAnd_bd (w / 2 ^ (14 : Int).toNat) 15 (by decide)
  have bl := @bitAnd_bd w 262143 (by decide)
  have bs := @bitAnd_bd w 16383 (by decide)
  have sj := @sgf_bd _ 18 _ bl (by decide) (by decide)
  have sc := @sgf_bd _ 14 _ bs (by decide) (by decide)
  unfold fieldsI
  split
  · rename_i h
    have h := inS_iff.mp h
    refine ⟨hm, ba, z41, z41, fun q => absurd h (by rw [show opAt w = "lui" from q]; decide), fun q _ => absurd h q, fun _ => z15⟩
  · rename_i h
    have h := fun z => h (inS_iff.mpr z)
    split
    · rename_i h1
      refine ⟨hm, ba, by show (Builtin.bitAnd w 262143).natAbs < _; omega, z41, fun _ => bl, fun _ q => absurd (show opAt w ∈ sJ by rw [h1]; exact List.mem_cons_self) q, fun q => absurd (show opAt w ∈ alu13 from q) (by rw [h1]; decide)⟩
    · rename_i h1
      split
      · rename_i h2
        refine ⟨hm, ba, sj, z41, fun q => absurd q h1, fun _ q => absurd (show opAt w ∈ sJ by rw [h2]; decide) q, fun q => absurd (show opAt w ∈ alu13 from q) (by rw [h2]; decide)⟩
      · split
        · refine ⟨hm, ba, ?_, ?_, fun q => absurd q h1, fun _ _ => bb, fun _ => bc⟩
          · show (fldB w).natAbs < _; unfold fldB; omega
          · show (Builtin.bitAnd (w / 2 ^ (14 : Int).toNat) 15).natAbs < _; omega
        · rename_i h3
          refine ⟨hm, ba, ?_, sc, fun q => absurd q h1, fun _ _ => bb, fun q => absurd (inS_iff.mpr q) h3⟩
          show (fldB w).natAbs < _; unfold fldB; omega
theorem fit_sm {i : Ins} (h : i.fit) : i.sm := ⟨h.1, by have := h.2.1; omega, by have := h.2.2.1; omega, by have := h.2.2.2.1; omega⟩
theorem decode_fit {w : Int} {i : Ins} (h : decodeF w = some i) : i.fit := by
  unfold decodeF fieldsF at h
  by_cases hn : numOk w = true
  · rw [if_pos hn] at h
    dsimp only at h
    split at h
    · cases h; exact fieldsI_fit w
    · cases h
  · rw [if_neg hn] at h
    cases h
theorem opAt_at {w : Int} (h : numOk w = true) : atI (ops38.map PyData.str) (w / 2 ^ (26 : Int).toNat - 1) = some (.str (opAt w)) := by
  obtain ⟨h1, h2⟩ := Bool.and_eq_true_iff.mp h
  have h1 := of_decide_eq_true h1
  have h2 := of_decide_eq_true h2
  have hk : (w / 2 ^ (26 : Int).toNat - 1).toNat < ops38.length := by
    show _ < 38
    omega
  have e : (ops38.map PyData.str)[(w / 2 ^ (26 : Int).toNat - 1).toNat]? = some (.str (opAt w)) := by
    rw [List.getElem?_map]
    unfold opAt
    rw [List.getElem?_eq_getElem hk]
    rfl
  have z := atI_nat e
  rw [Int.toNat_of_nonneg (by omega)] at z
  exact z
theorem insD_tup (i : Ins) : ∃ ds, i.D = .tuple ds := by
  unfold Ins.D
  split
  · exact ⟨_, rfl⟩
  · split
    · exact ⟨_, rfl⟩
    · exact ⟨_, rfl⟩
theorem fD1 {w : Int} (h : inS (opAt w) s3 = true) : (fieldsI w).D = .tuple [.str (opAt w), .int (fldA w)] := by
  unfold Ins.D
  rw [fieldsI_op, if_pos h]
  unfold fieldsI
  rw [if_pos h]
theorem fD2 {w : Int} (h : inS (opAt w) s3 = false) (h1 : opAt w = "lui") : (fieldsI w).D = .tuple [.str (opAt w), .int (fldA w), .int (Builtin.bitAnd w 262143)] := by
  have e : inS (opAt w) sJ = true := inS_iff.mpr (by rw [h1]; decide)
  unfold Ins.D
  rw [fieldsI_op, if_neg (by rw [h]; decide), if_pos e]
  unfold fieldsI
  rw [if_neg (by rw [h]; decide), if_pos h1]
theorem fD3 {w : Int} (h : inS (opAt w) s3 = false) (h1 : opAt w ≠ "lui") (h2 : opAt w = "jal") : (fieldsI w).D = .tuple [.str (opAt w), .int (fldA w), .int (sgf (Builtin.bitAnd w 262143) 18)] := by
  have e : inS (opAt w) sJ = true := inS_iff.mpr (by rw [h2]; decide)
  unfold Ins.D
  rw [fieldsI_op, if_neg (by rw [h]; decide), if_pos e]
  unfold fieldsI
  rw [if_neg (by rw [h]; decide), if_neg h1, if_pos h2]
theorem fD4 {w : Int} (h : inS (opAt w) s3 = false) (h1 : opAt w ≠ "lui") (h2 : opAt w ≠ "jal") (h3 : inS (opAt w) alu13 = true) : (fieldsI w).D = .tuple [.str (opAt w), .int (fldA w), .int (fldB w), .int (Builtin.bitAnd (w / 2 ^ (14 : Int).toNat) 15)] := by
  have e : inS (opAt w) sJ = false := inS_no.mpr (by simp [h1, h2])
  unfold Ins.D
  rw [fieldsI_op, if_neg (by rw [h]; decide), if_neg (by rw [e]; decide)]
  unfold fieldsI
  rw [if_neg (by rw [h]; decide), if_neg h1, if_neg h2, if_pos h3]
theorem fD5 {w : Int} (h : inS (opAt w) s3 = false) (h1 : opAt w ≠ "lui") (h2 : opAt w ≠ "jal") (h3 : inS (opAt w) alu13 = false) : (fieldsI w).D = .tuple [.str (opAt w), .int (fldA w), .int (fldB w), .int (sgf (Builtin.bitAnd w 16383) 14)] := by
  have e : inS (opAt w) sJ = false := inS_no.mpr (by simp [h1, h2])
  unfold Ins.D
  rw [fieldsI_op, if_neg (by rw [h]; decide), if_neg (by rw [e]; decide)]
  unfold fieldsI
  rw [if_neg (by rw [h]; decide), if_neg h1, if_neg h2, if_neg (by rw [h3]; decide)]
section
variable {Z : Zx} [W : W0 Z]
abbrev cSgf : Ct := fun xs S R => ∃ v n : Int, xs = [.d (.int v), .d (.int n)] ∧ (1 ≤ n ∧ n ≤ 32) ∧ R (.d (.int (sgf v n))) S
instance ok_signed_field : HasFn Z "signed_field" ["value", "bits"] 1 cSgf := fn_intro sc_signed_field nm_signed_field (fun _ _ _ _ _ _ us hl => match us, hl with | [_, _], _ => rfl) (by tm_at "ctl") fun X _ xs S R hc => by
  obtain ⟨v, n, rfl, ⟨h1, h2⟩, hR⟩ := hc
  unfold sgf at hR
  refine' sws_if2 ?a (fun h => ?b) fun h => ?c
  case a => exact tv_int (ev_shr (by tm_at "ev") (by tm_at "ev") (by omega))
  case b =>
    rw [if_pos h] at hR
    exact sws_one (sw_retE (ev_sub (by tm_at "ev") (ev_shl (by tm_at "ev") (by tm_at "ev") ⟨by omega, by omega, by decide⟩)) rfl hR)
  rw [if_neg (by rw [h]; decide)] at hR
  tm_at "ret"
abbrev cFields : Ct := fun xs S R => ∃ w : Int, xs = [.d (.int w)] ∧ R (.d (optI (fieldsF w))) S
instance ok_fields : HasFn Z "fields" ["word"] 2 cFields := fn_intro sc_fields nm_fields (fun _ _ _ _ _ _ us hl => match us, hl with | [_], _ => rfl) (by tm_at "ctl") fun X _ xs S R hc => by
  obtain ⟨w, rfl, hR⟩ := hc
  unfold fieldsF at hR
  tm_at "set"
  refine' sws_if2 (x := !numOk w) ?a (fun h => ?b) fun h => ?c
  case a => exact tv_not (tv_chainI op_le op_le (by tm_at "ev") (by tm_at "ev") (EV.is (ev_lenT (ds := ops38.map PyData.str) ev_cst) rfl))
  case b =>
    rw [if_neg (by simpa using h)] at hR
    tm_at "ret"
  have hn : numOk w = true := by simpa using h
  rw [if_pos hn] at hR
  refine sws_setV (v := .d (.str (opAt w))) (ev_ixT (ds := ops38.map PyData.str) ev_cst (by tm_at "ev") (opAt_at hn)) ?_
  tm_at "set"
  tm_at "set"
  have hR : R (.d (fieldsI w).D) S := hR
  refine' sws_if2 (x := inS (opAt w) s3) ?wa (fun h => ?wb) fun h1 => ?wc
  case wa => tm_at "tv"
  case wb =>
    rw [fD1 h] at hR
    tm_at "ret"
  refine' sws_if2 (x := decide (opAt w = "lui")) ?xa (fun h => ?xb) fun h => ?xc
  case xa => tm_at "tv"
  case xb =>
    rw [fD2 h1 (of_decide_eq_true h)] at hR
    tm_at "ret"
  have h2 := of_decide_eq_false h
  refine' sws_if2 (x := decide (opAt w = "jal")) ?ya (fun h => ?yb) fun h => ?yc
  case ya => tm_at "tv"
  case yb =>
    rw [fD3 h1 h2 (of_decide_eq_true h)] at hR
    tm_at "ret"
  have h3 := of_decide_eq_false h
  refine' sws_if2 (x := inS (opAt w) alu13) ?za (fun h => ?zb) fun h => ?zc
  case za => tm_at "tv"
  case zb =>
    rw [fD4 h1 h2 h3 h] at hR
    tm_at "ret"
  rw [fD5 h1 h2 h3 h] at hR
  tm_at "ret"
abbrev cDecode : Ct := fun xs S R => ∃ w : Int, xs = [.d (.int w)] ∧ R (.d (optI (decodeF w))) S
instance ok_decode : HasFn Z "decode" ["word"] 3 cDecode := fn_intro sc_decode nm_decode (fun _ _ _ _ _ _ us hl => match us, hl with | [_], _ => rfl) (by tm_at "ctl") fun X _ xs S R hc => by
  obtain ⟨w, rfl, hR⟩ := hc
  unfold decodeF at hR
  tm_at "set"
  cases hf : fieldsF w with
  | none =>
    rw [hf] at hR
    refine sws_ifT (x := true || false) (tv_w (wv_or (y := false) (tv_cmp (cv_isN (x := PyData.none) (ev_var rfl))) fun h => absurd h (by decide))) rfl ?_
    tm_at "ret"
  | some i =>
    rw [hf] at hR
    dsimp only at hR
    have fi : i.fit := by
      unfold fieldsF at hf
      split at hf
      · cases hf; exact fieldsI_fit w
      · cases hf
    obtain ⟨ds, hds⟩ := insD_tup i
    refine' sws_if2 (x := false || !decide (encF i = w)) ?a (fun h => ?b) fun h => ?c
    case a => exact tv_w (wv_or (tv_cmp (cv_isN (x := .tuple ds) (EV.is (ev_var rfl) (by show SV.d i.D = _; rw [hds])))) fun _ => wv_or1 (tv_cmp (cv_neI (ev_call (by tm_at "av") ⟨i, rfl, fit_sm fi, rfl, rfl⟩) (by tm_at "ev"))))
    case b =>
      rw [if_neg (by simpa using h)] at hR
      tm_at "ret"
    rw [if_pos (by simpa using h)] at hR
    tm_at "ret"
end
end K23
/-! the image's memory -/
namespace K23
open PySem PySem.Spec PyProof.Rows L2
structure Seg where
  base : Int
  bs : List Int
  w : Bool
  x : Bool
structure Img where
  segs : List Seg
  entry : Int
def Seg.B (s : Seg) : PyData := .tuple (s.bs.map PyData.int)
def Seg.D (s : Seg) : PyData := .tuple [.int s.base, s.B, .bool s.w, .bool s.x]
def Img.D (m : Img) : PyData := .tuple [.tuple (m.segs.map Seg.D), .int m.entry, .tuple []]
def Seg.ok (s : Seg) : Prop := (∀ b ∈ s.bs, 0 ≤ b ∧ b ≤ 255) ∧ s.bs.length < 2 ^ 16 ∧ 0 ≤ s.base ∧ s.base < 2 ^ 31
def Img.ok (m : Img) : Prop := m.segs.length ≤ 100 ∧ ∀ s ∈ m.segs, s.ok
def inSeg (s : Seg) (a c : Int) : Bool := decide (s.base ≤ a) && decide (a + c ≤ s.base + (s.bs.length : Int))
def fsA (a c : Int) : List Seg → Nat → Int
  | [], _ => -1
  | s :: r, n => if inSeg s a c = true then 0 + (n : Int) else fsA a c r (n + 1)
def findS (m : Img) (a c : Int) : Int := fsA a c m.segs 0
def segAt (m : Img) (k : Int) : Seg := (m.segs[k.toNat]?).getD ⟨0, [], false, false⟩
def byteAt (s : Seg) (i : Int) : Int := (s.bs[i.toNat]?).getD 0
def loadB (m : Img) (a c : Int) : Bool := (decide (c = 1) || decide (Builtin.bitAnd a 3 = 0)) && decide (0 ≤ findS m a c)
def placeB (m : Img) (a : Int) : Bool := decide (Builtin.bitAnd a 3 = 0) && (decide (0 ≤ findS m a 4) && (segAt m (findS m a 4)).x)
def wordF (m : Img) (a : Int) : Int := (List.range 4).foldl (fun v (j : Nat) => Builtin.bitOr v (byteAt (segAt m (findS m a 4)) (a - (segAt m (findS m a 4)).base + (0 + (j : Int))) * 2 ^ (8 * (0 + (j : Int))).toNat)) 0
theorem fsA_ok {a c : Int} : ∀ (r : List Seg) (n : Nat), fsA a c r n = -1 ∨ ∃ (i : Nat) (s : Seg), r[i]? = some s ∧ inSeg s a c = true ∧ fsA a c r n = ((n + i : Nat) : Int)
  | [], _ => .inl rfl
  | s :: r, n => by
    unfold fsA
    by_cases h : inSeg s a c = true
    · rw [if_pos h]
      exact .inr ⟨0, s, rfl, h, by simp⟩
    · rw [if_neg h]
      rcases fsA_ok (a := a) (c := c) r (n + 1) with e | ⟨i, t, e1, e2, e3⟩
      · exact .inl e
      · exact .inr ⟨i + 1, t, e1, e2, by rw [e3]; congr 1; omega⟩
theorem findS_ok {m : Img} {a c : Int} (h : 0 ≤ findS m a c) : m.segs[(findS m a c).toNat]? = some (segAt m (findS m a c)) ∧ inSeg (segAt m (findS m a c)) a c = true := by
  rcases fsA_ok (a := a) (c := c) m.segs 0 with e | ⟨i, t, e1, e2, e3⟩
  · unfold findS at h; omega
  · have e : findS m a c = (i : Int) := by unfold findS; rw [e3]; congr 1; omega
    unfold segAt
    rw [e, Int.toNat_natCast, e1]
    exact ⟨rfl, e2⟩
theorem findS_lo (m : Img) (a c : Int) : -1 ≤ findS m a c := by
  rcases fsA_ok (a := a) (c := c) m.segs 0 with e | ⟨i, t, e1, e2, e3⟩
  · unfold findS; omega
  · unfold findS; omega
theorem atI0 {α : Type} {l : List α} {n : Nat} {x : α} (h : l[n]? = some x) : atI l (0 + (n : Int)) = some x := by
  rw [Int.zero_add]; exact atI_nat h
theorem atIp {α : Type} {l : List α} {i : Int} {x : α} (h0 : 0 ≤ i) (h : l[i.toNat]? = some x) : atI l i = some x := by
  have z := atI_nat h
  rwa [Int.toNat_of_nonneg h0] at z
theorem range_drop {N n t : Nat} {r : List Nat} (h : t :: r = (List.range N).drop n) : t = n ∧ n < N ∧ r = (List.range N).drop (n + 1) := by
  have hn : n < N := by
    by_cases c : n < N
    · exact c
    · rw [List.drop_eq_nil_of_le (by rw [List.length_range]; omega)] at h; cases h
  rw [List.drop_eq_getElem_cons (by rw [List.length_range]; exact hn)] at h
  obtain ⟨h1, h2⟩ := List.cons.inj h
  exact ⟨by rw [h1, List.getElem_range], hn, h2⟩
section
variable {Z : Zx} [W : W0 Z]
abbrev cFind : Ct := fun xs S R => ∃ (m : Img) (a c : Int), xs = [.d m.D, .d (.int a), .d (.int c)] ∧ m.ok ∧ R (.d (.int (findS m a c))) S
instance ok_find_segment : HasFn Z "find_segment" ["image", "address", "count"] 1 cFind := fn_intro sc_find_segment nm_find_segment (fun _ _ _ _ _ _ us hl => match us, hl with | [_, _, _], _ => rfl) (by tm_at "ctl") fun X _ xs S R hc => by
  obtain ⟨m, a, c, rfl, hm, hR⟩ := hc
  tm_at "set"
  refine sws_cons (sw_forT (D := fun i : Nat => .int (0 + (i : Int))) (ts := List.range (((m.segs.map Seg.D).length : Int)).toNat) (iw_range1 (n := ((m.segs.map Seg.D).length : Int)) (by tm_at "ev") (by have := hm.1; simp only [List.length_map]; omega) (by have := hm.1; simp only [List.length_map]; omega))
    (fun r δ' S' => ∃ (n : Nat) (u : Option SV), r = (List.range m.segs.length).drop n ∧ δ' = [some (.d m.D), some (.d (.int a)), some (.d (.int c)), some (.d (.tuple (m.segs.map Seg.D))), u] ∧ S' = S ∧ findS m a c = fsA a c (m.segs.drop n) n)
    ⟨0, none, by simp, rfl, rfl, rfl⟩ (fun _ _ _ _ => trivial) ?_ ?_)
  · rintro t r δ' S' ⟨n, u, e1, rfl, rfl, e2⟩
    obtain ⟨rfl, hn, rfl⟩ := range_drop e1
    have hs : m.segs[t]? = some m.segs[t] := List.getElem?_eq_getElem hn
    have hd : atI (m.segs.map Seg.D) (0 + (t : Int)) = some (m.segs[t]).D := atI0 (by rw [List.getElem?_map, hs]; rfl)
    have e3 : m.segs.drop t = m.segs[t] :: m.segs.drop (t + 1) := List.drop_eq_getElem_cons hn
    rw [e3] at e2
    have e2 : findS m a c = if inSeg m.segs[t] a c = true then 0 + (t : Int) else fsA a c (m.segs.drop (t + 1)) (t + 1) := e2
    refine ew_tg (sws_cons (sw_if (x := inSeg m.segs[t] a c) ?_ (fun h => ?_) fun h => sws_nil (sws_nil ?_)))
    · refine TV.is (x := decide ((m.segs[t]).base ≤ a) && decide (a + c ≤ (m.segs[t]).base + (((m.segs[t]).bs.map PyData.int).length : Int))) (tv_w (wv_and (tv_cmp (cv_le (ev_ixT (ev_ixT (by tm_at "ev") (by tm_at "ev") hd) (by tm_at "ev") rfl) (by tm_at "ev"))) fun _ => wv_and1 (tv_cmp (cv_le (by tm_at "ev") (ev_add (ev_ixT (ev_ixT (by tm_at "ev") (by tm_at "ev") hd) (by tm_at "ev") rfl) (ev_lenT (ev_ixT (ev_ixT (by tm_at "ev") (by tm_at "ev") hd) (by tm_at "ev") rfl))))))) ?_
      unfold inSeg
      rw [List.length_map]
    · rw [if_pos h] at e2
      rw [e2] at hR
      tm_at "ret"
    · rw [if_neg (by rw [h]; decide)] at e2
      exact ⟨t + 1, _, rfl, rfl, rfl, e2⟩
  · rintro δ' S' ⟨n, u, e1, rfl, rfl, e2⟩
    have hn : m.segs.length ≤ n := by
      have := congrArg List.length e1
      rw [List.length_drop, List.length_range] at this
      simp only [List.length_nil] at this
      omega
    rw [List.drop_eq_nil_of_le hn] at e2
    rw [e2] at hR
    exact sws_one (sw_retE (ev_neg ev_int) rfl hR)
abbrev cCanLoad : Ct := fun xs S R => ∃ (m : Img) (a c : Int), xs = [.d m.D, .d (.int a), .d (.int c)] ∧ m.ok ∧ R (.d (.bool (loadB m a c))) S
instance ok_can_load : HasFn Z "can_load" ["image", "address", "count"] 2 cCanLoad := fn_intro sc_can_load nm_can_load (fun _ _ _ _ _ _ us hl => match us, hl with | [_, _, _], _ => rfl) (by tm_at "ctl") fun X _ xs S R hc => by
  obtain ⟨m, a, c, rfl, hm, hR⟩ := hc
  unfold loadB at hR
  exact sws_one (sw_retE (ev_andV (ev_orV (by tm_at "ev") fun _ => ev_one (by tm_at "ev")) fun _ => ev_one (ev_cmp (cv_ge (ev_call (by tm_at "av") ⟨m, a, c, rfl, hm, rfl, rfl⟩) (by tm_at "ev")))) rfl hR)
abbrev cFetch : Ct := fun xs S R => ∃ (m : Img) (a : Int), xs = [.d m.D, .d (.int a)] ∧ m.ok ∧ R (.d (.bool (placeB m a))) S
instance ok_can_fetch : HasFn Z "can_fetch" ["image", "address"] 2 cFetch := fn_intro sc_can_fetch nm_can_fetch (fun _ _ _ _ _ _ us hl => match us, hl with | [_, _], _ => rfl) (by tm_at "ctl") fun X _ xs S R hc => by
  obtain ⟨m, a, rfl, hm, hR⟩ := hc
  unfold placeB at hR
  refine sws_setV (ev_call (by tm_at "av") ⟨m, a, 4, rfl, hm, rfl, rfl⟩) ?_
  refine sws_one (sw_retE (ev_andV (by tm_at "ev") fun _ => ev_andV (by tm_at "ev") fun h => ev_one (ev_ixT (ev_ixT (by tm_at "ev") (by tm_at "ev") (d := (segAt m (findS m a 4)).D) (atIp (of_decide_eq_true h) ?_)) (by tm_at "ev") rfl)) rfl hR)
  rw [List.getElem?_map, (findS_ok (of_decide_eq_true h)).1]; rfl
def Img.M (m : Img) : PyData := .tuple (m.segs.map Seg.B)
abbrev cFirst : Ct := fun xs S R => ∃ (m : Img), xs = [.d m.D] ∧ m.ok ∧ R (.d m.M) S
instance ok_first_memory : HasFn Z "first_memory" ["image"] 1 cFirst := fn_intro sc_first_memory nm_first_memory (fun _ _ _ _ _ _ us hl => match us, hl with | [_], _ => rfl) (by tm_at "ctl") fun X _ xs S R hc => by
  obtain ⟨m, rfl, hm, hR⟩ := hc
  exact sws_one (sw_retE (ev_tupleL (ev_lcM (D := Seg.D) (F := Seg.B) [("segment", 1)] [false, true] [false, true] [] (by decide +kernel) (by decide +kernel) (by decide) (iw_tup (by tm_at "ev")) (Nat.lt_of_le_of_lt hm.1 (by decide)) fun X1 _ t ht => by tm_at "ev")) rfl hR)
abbrev cLoadW : Ct := fun xs S R => ∃ (m : Img) (a : Int), xs = [.d m.D, .d m.M, .d (.int a), .d (.int 4)] ∧ m.ok ∧ 0 ≤ findS m a 4 ∧ R (.d (.int (wordF m a))) S
instance ok_load_word : HasFn Z "load_word" ["image", "memory", "address", "count"] 2 cLoadW := fn_intro sc_load_word nm_load_word (fun _ _ _ _ _ _ us hl => match us, hl with | [_, _, _, _], _ => rfl) (by tm_at "ctl") fun X _ xs S R hc => by
  obtain ⟨m, a, rfl, hm, h0, hR⟩ := hc
  have ⟨f1, f2⟩ := findS_ok h0
  generalize hk : findS m a 4 = k at *
  generalize hs : segAt m k = s at *
  have hok : s.ok := hm.2 s (List.mem_of_getElem? f1)
  have hd : atI (m.segs.map Seg.D) k = some s.D := atIp h0 (by rw [List.getElem?_map, f1]; rfl)
  have hb : atI (m.segs.map Seg.B) k = some s.B := atIp h0 (by rw [List.getElem?_map, f1]; rfl)
  obtain ⟨i1, i2⟩ := Bool.and_eq_true_iff.mp f2
  have i1 := of_decide_eq_true i1
  have i2 := of_decide_eq_true i2
  refine sws_setV (v := .d (.int k)) (ev_call (by tm_at "av") ⟨m, a, 4, rfl, hm, by rw [hk], rfl⟩) ?_
  refine sws_setV (ev_sub (by tm_at "ev") (ev_ixT (ev_ixT (by tm_at "ev") (by tm_at "ev") hd) (by tm_at "ev") rfl)) ?_
  tm_at "set"
  refine sws_cons (sw_forT (D := fun i : Nat => .int (0 + (i : Int))) (ts := List.range 4) (iw_range1 (n := 4) (by tm_at "ev") (by decide) (by decide))
    (fun r δ' S' => ∃ (v : Int) (u : Option SV), (∃ n, r = (List.range 4).drop n) ∧ δ' = [some (.d m.D), some (.d m.M), some (.d (.int a)), some (.d (.int 4)), some (.d (.int k)), some (.d (.int (a - s.base))), some (.d (.int v)), u] ∧ S' = S ∧ wordF m a = r.foldl (fun v (j : Nat) => Builtin.bitOr v (byteAt s (a - s.base + (0 + (j : Int))) * 2 ^ (8 * (0 + (j : Int))).toNat)) v)
    ⟨0, none, ⟨0, rfl⟩, rfl, rfl, by unfold wordF; rw [hk, hs]⟩ (fun _ _ _ _ => trivial) ?_ ?_)
  · rintro t r δ' S' ⟨v, u, ⟨n, e1⟩, rfl, rfl, e2⟩
    obtain ⟨rfl, hn, rfl⟩ := range_drop e1
    have hi : 0 ≤ a - s.base + (0 + (t : Int)) := by omega
    have hj : s.bs[(a - s.base + (0 + (t : Int))).toNat]? = some (byteAt s (a - s.base + (0 + (t : Int)))) := by
      have hl : (a - s.base + (0 + (t : Int))).toNat < s.bs.length := by omega
      unfold byteAt
      rw [List.getElem?_eq_getElem hl]; rfl
    have hby := hok.1 _ (List.mem_of_getElem? hj)
    refine ew_tg (sws_setV (ev_or (by tm_at "ev") (ev_shl (ev_ixT (ev_ixT (by tm_at "ev") (by tm_at "ev") hb) (by tm_at "ev") (d := .int (byteAt s (a - s.base + (0 + (t : Int))))) (atIp hi (by rw [List.getElem?_map, hj]; rfl))) (ev_mul (by tm_at "ev") (by tm_at "ev") (.inl ⟨by decide, by decide⟩)) ⟨by omega, by omega, by omega⟩)) (sws_nil ?_))
    exact ⟨_, _, ⟨t + 1, rfl⟩, rfl, rfl, e2⟩
  · rintro δ' S' ⟨v, u, _, rfl, rfl, e2⟩
    rw [e2] at hR
    tm_at "ret"
abbrev cWordAt : Ct := fun xs S R => ∃ (m : Img) (a : Int), xs = [.d m.D, .d (.int a)] ∧ m.ok ∧ 0 ≤ findS m a 4 ∧ R (.d (.int (wordF m a))) S
instance ok_word_at : HasFn Z "word_at" ["image", "address"] 3 cWordAt := fn_intro sc_word_at nm_word_at (fun _ _ _ _ _ _ us hl => match us, hl with | [_, _], _ => rfl) (by tm_at "ctl") fun X _ xs S R hc => by
  obtain ⟨m, a, rfl, hm, h0, hR⟩ := hc
  exact sws_one (sw_retE (ev_call (av_cons (by tm_at "ev") (av_cons (ev_call (by tm_at "av") ⟨m, rfl, hm, rfl, rfl⟩) (av_cons (by tm_at "ev") (av_cons (by tm_at "ev") av_nil)))) ⟨m, a, rfl, hm, h0, rfl, rfl⟩) rfl hR)
end
end K23
/-! ways: the small defs -/
namespace K23
open PySem PySem.Spec PyProof.Rows L2
abbrev wrapF (n : Int) : Int := Builtin.bitAnd n 4294967295
def placesS (s : Seg) : List Int := if s.x = true then (List.range ((s.bs.length + 3) / 4)).map fun (t : Nat) => s.base + (0 + (t : Int) * 4) else []
def placesF (m : Img) : List Int := m.segs.flatMap placesS
abbrev Facts := List Fact
def FD (fs : Facts) : PyData := .tuple (fs.map Fact.D)
def factAt (fs : Facts) (r : Int) : Fact := (fs[r.toNat]?).getD .top
def setF (fs : Facts) (r : Int) (f : Fact) : Facts := if r = 0 then fs else fs.set r.toNat f
def okT (fs : Facts) : Prop := fs.length = 16 ∧ ∀ f ∈ fs, f.ok
def cntF (op : Str) : Int := if inS op ["lw", "sw"] = true then 4 else 1
def word4 (s : Seg) (o : Int) : Int := byteAt s o + byteAt s (o + 1) * 2 ^ (8 : Int).toNat + byteAt s (o + 2) * 2 ^ (16 : Int).toNat + byteAt s (o + 3) * 2 ^ (24 : Int).toNat
def ldS (m : Img) (c : Int) (st : Bool × List Int) (a : Int) : Bool × List Int :=
  if (segAt m (findS m a c)).w = true then (false, st.2) else if st.1 = true then (true, st.2 ++ [word4 (segAt m (findS m a c)) (a - (segAt m (findS m a c)).base)]) else st
def fitF (m : Img) (c : Int) (ws : List Int) : List Int := ws.filter fun a => loadB m a c
def ldF (m : Img) (op : Str) (ws : List Int) : Bool × List Int := (fitF m (cntF op) ws).foldl (ldS m (cntF op)) (decide (op = "lw") && !(fitF m (cntF op) ws).isEmpty, [])
def ld0 (op : Str) : Fact := if op = "lbu" then ofB 0 255 else .top
def loadedF (m : Img) (op : Str) : Fact → Fact
  | .words ws => if (ldF m op ws).1 = true then ofWs (ldF m op ws).2 else ld0 op
  | _ => ld0 op
def emptyB : Fact → Bool
  | .words [] => true
  | _ => false
def withoutF (f o : Fact) : Fact := match o.only, f with
  | some w, .words ws => .words (ws.filter fun x => !decide (x = w))
  | _, f => f
def belowF (f o : Fact) (less : Bool) : Fact × Fact :=
  ((match o.only with | none => f | some c => meetF f (if less = true then ofB 0 (c - 1) else ofB c TOPn)),
   (match f.only with | none => o | some d => meetF o (if less = true then ofB (d + 1) TOPn else ofB 0 d)))
def refAB (op : Str) (taken : Bool) (a b : Fact) : Fact × Fact :=
  if inS op ["beq", "bne"] = true then (if (decide (op = "beq") == taken) = true then (meetF a b, meetF a b) else (withoutF a b, withoutF b a)) else
  if inS op ["bltu", "bgeu"] = true then belowF a b (decide (op = "bltu") == taken) else (a, b)
def refF (op : Str) (taken : Bool) (fs : Facts) (ra rb : Int) : Option Facts :=
  if (emptyB (refAB op taken (factAt fs ra) (factAt fs rb)).1 || emptyB (refAB op taken (factAt fs ra) (factAt fs rb)).2) = true then none
  else some (setF (setF fs ra (refAB op taken (factAt fs ra) (factAt fs rb)).1) rb (refAB op taken (factAt fs ra) (factAt fs rb)).2)
/-! ### small facts about these -/
theorem cut_to {α : Type} {xs : List α} {i : Int} (h : 0 ≤ i) : cutD xs none (some i) = xs.take i.toNat := by
  unfold cutD
  rw [← Int.toNat_of_nonneg h, HT.sIx_nat, HT.sIx_none]
  simp only [Int.toNat_natCast, List.drop_zero, Nat.sub_zero]
  rw [List.take_eq_take_iff]; omega
theorem cut_from {α : Type} {xs : List α} {i : Int} (h : 0 ≤ i) : cutD xs (some i) none = xs.drop i.toNat := by
  unfold cutD
  rw [← Int.toNat_of_nonneg h, HT.sIx_nat, HT.sIx_none, Int.toNat_natCast]
  by_cases c : i.toNat ≤ xs.length
  · rw [Nat.min_eq_left c, List.take_of_length_le (by rw [List.length_drop]; omega)]
  · rw [Nat.min_eq_right (by omega), List.drop_eq_nil_of_le (by omega), List.drop_eq_nil_of_le (by omega), List.take_nil]
theorem cut_mid {α : Type} {xs : List α} {i j : Int} (h : 0 ≤ i) (h2 : i ≤ j) (h3 : j.toNat ≤ xs.length) : cutD xs (some i) (some j) = (xs.drop i.toNat).take (j.toNat - i.toNat) := by
  unfold cutD
  rw [← Int.toNat_of_nonneg h, ← Int.toNat_of_nonneg (Int.le_trans h h2), HT.sIx_nat, HT.sIx_nat, Int.toNat_natCast, Int.toNat_natCast, Nat.min_eq_left h3, Nat.min_eq_left (show i.toNat ≤ xs.length by omega)]
theorem okT_at {fs : Facts} {r : Int} (h : okT fs) (h0 : 0 ≤ r) (h1 : r ≤ 15) : fs[r.toNat]? = some (factAt fs r) ∧ (factAt fs r).ok := by
  have hl : r.toNat < fs.length := by rw [h.1]; omega
  unfold factAt
  rw [List.getElem?_eq_getElem hl]
  exact ⟨rfl, h.2 _ (List.getElem_mem hl)⟩
theorem okT_atI {fs : Facts} {r : Int} (h : okT fs) (h0 : 0 ≤ r) (h1 : r ≤ 15) : atI (fs.map Fact.D) r = some (factAt fs r).D := atIp h0 (by rw [List.getElem?_map, (okT_at h h0 h1).1]; rfl)
theorem set_cut {fs : Facts} {r : Int} {f : Fact} (h0 : 0 ≤ r) (h1 : r.toNat < fs.length) : ((cutD (fs.map Fact.D) none (some r)) ++ [f.D]) ++ cutD (fs.map Fact.D) (some (r + 1)) none = (fs.set r.toNat f).map Fact.D := by
  rw [cut_to h0, cut_from (by omega), List.set_eq_take_append_cons_drop, if_pos h1, List.map_append, List.map_cons, ← List.map_take, ← List.map_drop]
  have e : (r + 1).toNat = r.toNat + 1 := by omega
  rw [e, List.append_assoc]; rfl
theorem setF_len {fs : Facts} {r : Int} {f : Fact} : (setF fs r f).length = fs.length := by
  unfold setF
  split
  · rfl
  · rw [List.length_set]
theorem setF_ok {fs : Facts} {r : Int} {f : Fact} (h : okT fs) (hf : f.ok) : okT (setF fs r f) := by
  refine ⟨by rw [setF_len, h.1], fun g hg => ?_⟩
  unfold setF at hg
  split at hg
  · exact h.2 g hg
  · rcases List.mem_or_eq_of_mem_set hg with z | z
    · exact h.2 g z
    · rw [z]; exact hf
theorem empty_eqv (f : Fact) : PyData.eqv f.D (.tuple [.str "words", .tuple []]) = emptyB f := by
  cases f with
  | top => rfl
  | words ws => cases ws <;> rfl
  | range lo hi => rfl
theorem lay_str {n : Nat} {x : Str} (h : (PyData.str x).canLay0 = true) : lay n (.str x) := ⟨h, Nat.zero_le _⟩
theorem factD_lay (f : Fact) : lay 2 f.D := by
  cases f with
  | top => exact lay_none
  | words ws =>
    refine lay_tup (n := 1) fun d hd => ?_
    rcases List.mem_cons.mp hd with e | e
    · rw [e]; exact lay_str (by decide +kernel)
    · rw [List.mem_singleton.mp e]
      exact lay_tup (n := 0) fun d hd => by
        obtain ⟨i, _, rfl⟩ := List.mem_map.mp hd
        exact lay_int
  | range lo hi =>
    refine lay.up (lay_tup (n := 0) fun d hd => ?_) (by decide)
    rcases List.mem_cons.mp hd with e | e
    · rw [e]; exact lay_str (by decide +kernel)
    · rcases List.mem_cons.mp e with e | e
      · rw [e]; exact lay_int
      · rw [List.mem_singleton.mp e]; exact lay_int
theorem places_len (m : Img) (hm : m.ok) : (placesF m).length < sizeLine := by
  have k : ∀ l : List Seg, (∀ s ∈ l, s.ok) → (l.flatMap placesS).length ≤ l.length * 2 ^ 16 := by
    intro l
    induction l with
    | nil => intro _; simp
    | cons s l ih =>
      intro h
      rw [List.flatMap_cons, List.length_append, List.length_cons, Nat.succ_mul]
      have h1 := ih fun t ht => h t (List.mem_cons_of_mem _ ht)
      have h2 := (h s List.mem_cons_self).2.1
      have h3 : (placesS s).length ≤ 2 ^ 16 := by
        unfold placesS
        split
        · rw [List.length_map, List.length_range]; omega
        · exact Nat.zero_le _
      omega
  have h := k m.segs hm.2
  have h1 := hm.1
  unfold placesF sizeLine
  omega
theorem fitsL {x : Int} (h0 : 0 ≤ x) (h1 : x < 2 ^ 62) : Builtin.Range.rangeFitsLong x = true := by
  unfold Builtin.Range.rangeFitsLong
  simp
  omega
theorem rgc4 (n : Nat) (hn : n < 2 ^ 16) : RgC 0 (n : Int) 4 ((n + 3) / 4) := by
  refine ⟨by decide, by decide, ?_, ?_⟩
  · unfold Builtin.Range.small
    have e : Builtin.Range.rangeSize 0 (n : Int) 4 = (((n + 3) / 4 : Nat) : Int) := by
      unfold Builtin.Range.rangeSize
      rw [if_pos (by decide)]
      split <;> omega
    rw [e, fitsL (by decide) (by decide), fitsL (by omega) (by omega), fitsL (by decide) (by decide), fitsL (by omega) (by omega), if_pos (by decide), fitsL (by omega) (by omega), Bool.or_true]; rfl
  · unfold Builtin.Range.rangeSize
    rw [if_pos (by decide)]
    split <;> omega
end K23
/-! ways: walks of the small defs -/
namespace K23
open PySem PySem.Spec PyProof.Rows L2
section
variable {Z : Zx} [W : W0 Z]
abbrev cWrap : Ct := fun xs S R => ∃ n : Int, xs = [.d (.int n)] ∧ R (.d (.int (wrapF n))) S
instance ok_wrapped : HasFn Z "wrapped" ["number"] 1 cWrap := fn_intro sc_wrapped nm_wrapped (fun _ _ _ _ _ _ us hl => match us, hl with | [_], _ => rfl) (by tm_at "ctl") fun X _ xs S R hc => by
  obtain ⟨n, rfl, hR⟩ := hc
  tm_at "ret"
abbrev cPlace : Ct := fun xs S R => ∃ (m : Img) (a : Int), xs = [.d m.D, .d (.int a)] ∧ m.ok ∧ R (.d (.bool (placeB m a))) S
instance ok_is_place : HasFn Z "is_place" ["image", "address"] 3 cPlace := fn_intro sc_is_place nm_is_place (fun _ _ _ _ _ _ us hl => match us, hl with | [_, _], _ => rfl) (by tm_at "ctl") fun X _ xs S R hc => by
  obtain ⟨m, a, rfl, hm, hR⟩ := hc
  tm_at "ret"
abbrev cPlaces : Ct := fun xs S R => ∃ m : Img, xs = [.d m.D] ∧ m.ok ∧ R (.d (.list ((placesF m).map PyData.int))) S
instance ok_places : HasFn Z "places" ["image"] 1 cPlaces := fn_intro sc_places nm_places (fun _ _ _ _ _ _ us hl => match us, hl with | [_], _ => rfl) (by tm_at "ctl") fun X _ xs S R hc => by
  obtain ⟨m, rfl, hm, hR⟩ := hc
  have hz := places_len m hm
  refine sws_newL (xs := []) av_nil (by decide) fun q hq => ?_
  refine sws_cons (sw_forT (D := Seg.D) (ts := m.segs) (iw_tup (by tm_at "ev"))
    (fun r δ' S' => ∃ (l : List Seg) (u v : Option SV), m.segs = l ++ r ∧ δ' = [some (.d m.D), some (.r q), u, v] ∧ S' = supd S q (.lst (((l.flatMap placesS).map PyData.int).map SV.d)))
    ⟨[], none, none, rfl, rfl, rfl⟩ (fun _ _ _ _ => trivial) ?_ ?_)
  · rintro s r δ' S' ⟨l, u, v, e1, rfl, rfl⟩
    have hs : s ∈ m.segs := by rw [e1]; simp
    have so := hm.2 s hs
    have e4 : m.segs = (l ++ [s]) ++ r := by rw [e1]; simp
    have e2 : (l ++ [s]).flatMap placesS = l.flatMap placesS ++ placesS s := by rw [List.flatMap_append, List.flatMap_singleton]
    have hz2 : (l.flatMap placesS).length + (placesS s).length < sizeLine := by
      unfold placesF at hz
      rw [e4, List.flatMap_append, List.length_append, e2, List.length_append] at hz
      omega
    refine ew_tg (sws_cons (sw_if (x := s.x) (tv_val (by tm_at "ev")) (fun h => ?_) fun h => sws_nil (sws_nil ?_)))
    · have e3 : placesS s = (List.range ((s.bs.length + 3) / 4)).map fun (t : Nat) => s.base + (0 + (t : Int) * 4) := by unfold placesS; rw [if_pos h]
      refine sws_one (sw_forT (D := fun t : Nat => .int (0 + (t : Int) * 4)) (ts := List.range ((s.bs.length + 3) / 4)) (iw_range3 (i := 0) (j := ((s.bs.map PyData.int).length : Int)) (m := 4) (by tm_at "ev") (by tm_at "ev") (by tm_at "ev") (by rw [List.length_map]; exact rgc4 _ so.2.1))
        (fun r2 δ' S' => ∃ (l2 : List Nat) (v : Option SV), List.range ((s.bs.length + 3) / 4) = l2 ++ r2 ∧ δ' = [some (.d m.D), some (.r q), some (.d s.D), v] ∧ S' = supd S q (.lst ((((l.flatMap placesS) ++ l2.map fun (t : Nat) => s.base + (0 + (t : Int) * 4)).map PyData.int).map SV.d)))
        ⟨[], v, rfl, rfl, by rw [List.map_nil, List.append_nil]⟩ (fun _ _ _ _ => trivial) ?_ ?_)
      · rintro t r2 δ' S' ⟨l2, v, e5, rfl, rfl⟩
        refine ew_tg (sws_app (by tm_at "ev") supd_same (by tm_at "ev") ?_ (sws_nil ⟨l2 ++ [t], _, by rw [e5]; simp, rfl, ?_⟩))
        · rw [e3, List.length_map, e5, List.length_append, List.length_cons] at hz2
          rw [List.length_map, List.length_map, List.length_append, List.length_map]
          omega
        · rw [supd_supd]
          refine congrArg (fun z => supd S q (.lst z)) ?_
          simp only [List.map_append, List.map_cons, List.map_nil, List.append_assoc]
      · rintro δ' S' ⟨l2, v, e5, rfl, rfl⟩
        rw [List.append_nil] at e5
        exact sws_nil ⟨l ++ [s], _, _, e4, rfl, by rw [e2, e3, e5]⟩
    · refine ⟨l ++ [s], _, _, e4, rfl, ?_⟩
      rw [e2]
      unfold placesS
      rw [if_neg (c := s.x = true) (by rw [h]; decide), List.append_nil]
  · rintro δ' S' ⟨l, u, v, e1, rfl, rfl⟩
    rw [List.append_nil] at e1
    exact sws_frz (i := 1) (S' := S) rfl supd_same ((SLe.refl S).new hq) hq (sws_one (sw_retE (ev_var rfl) (by rw [← e1]; rfl) hR))
abbrev cInsAt : Ct := fun xs S R => ∃ (m : Img) (a : Int), xs = [.d m.D, .d (.int a)] ∧ m.ok ∧ 0 ≤ findS m a 4 ∧ R (.d (optI (decodeF (wordF m a)))) S
instance ok_instruction_at : HasFn Z "instruction_at" ["image", "address"] 4 cInsAt := fn_intro sc_instruction_at nm_instruction_at (fun _ _ _ _ _ _ us hl => match us, hl with | [_, _], _ => rfl) (by tm_at "ctl") fun X _ xs S R hc => by
  obtain ⟨m, a, rfl, hm, h0, hR⟩ := hc
  exact sws_one (sw_retE (ev_call (av_cons (ev_call (by tm_at "av") ⟨m, a, rfl, hm, h0, rfl, rfl⟩) av_nil) ⟨_, rfl, rfl, rfl⟩) rfl hR)
abbrev cOne : Ct := fun xs S R => ∃ w : Int, xs = [.d (.int w)] ∧ R (.d (Fact.words [w]).D) S
instance ok_one : HasFn Z "one" ["w"] 1 cOne := fn_intro sc_one nm_one (fun _ _ _ _ _ _ us hl => match us, hl with | [_], _ => rfl) (by tm_at "ctl") fun X _ xs S R hc => by
  obtain ⟨w, rfl, hR⟩ := hc
  tm_at "ret"
abbrev cWith : Ct := fun xs S R => ∃ (fs : Facts) (r : Int) (f : Fact), xs = [.d (FD fs), .d (.int r), .d f.D] ∧ fs.length = 16 ∧ (0 ≤ r ∧ r ≤ 15) ∧ R (.d (FD (setF fs r f))) S
instance ok_with_fact : HasFn Z "with_fact" ["facts", "r", "fact"] 1 cWith := fn_intro sc_with_fact nm_with_fact (fun _ _ _ _ _ _ us hl => match us, hl with | [_, _, _], _ => rfl) (by tm_at "ctl") fun X _ xs S R hc => by
  obtain ⟨fs, r, f, rfl, hl, ⟨h0, h1⟩, hR⟩ := hc
  unfold setF at hR
  refine' sws_if2 ?a1 (fun h => ?b1) fun h => ?c1
  case a1 => tm_at "tv"
  case' c1 => rw [if_neg (of_decide_eq_false h)] at hR
  case' b1 => rw [if_pos (of_decide_eq_true h)] at hR
  · tm_at "ret"
  have hl2 : r.toNat < fs.length := by omega
  have l1 : (cutD (fs.map Fact.D) none (some r)).length ≤ 16 := by rw [cut_to h0, List.length_take, List.length_map]; omega
  have l2 : (cutD (fs.map Fact.D) (some (r + 1)) none).length ≤ 16 := by rw [cut_from (by omega), List.length_drop, List.length_map]; omega
  refine sws_one (sw_retE (ev_catT (ev_catT (ev_slT (by tm_at "ev") ov_none (ov_some (by tm_at "ev"))) (ev_tup (ds := [f.D]) (by tm_at "av")) ?_) (ev_slT (by tm_at "ev") (ov_some (by tm_at "ev")) ov_none) ?_) (by rw [set_cut h0 hl2]; rfl) hR)
  · show _ + 1 ≤ _
    unfold sizeLine; omega
  · rw [List.length_append]
    show _ + 1 + _ ≤ _
    unfold sizeLine; omega
abbrev cCount : Ct := fun xs S R => ∃ op : Str, xs = [.d (.str op)] ∧ R (.d (.int (cntF op))) S
instance ok_count_of : HasFn Z "count_of" ["op"] 1 cCount := fn_intro sc_count_of nm_count_of (fun _ _ _ _ _ _ us hl => match us, hl with | [_], _ => rfl) (by tm_at "ctl") fun X _ xs S R hc => by
  obtain ⟨op, rfl, hR⟩ := hc
  unfold cntF at hR
  refine' sws_if2 (x := inS op ["lw", "sw"]) ?a2 (fun h => ?b2) fun h => ?c2
  case a2 => tm_at "tv"
  case' c2 => rw [if_neg (by rw [h]; decide)] at hR
  case' b2 => rw [if_pos h] at hR
  · tm_at "ret"
  · tm_at "ret"
abbrev cEmpty : Ct := fun xs S R => ∃ f : Fact, xs = [.d f.D] ∧ R (.d (.bool (emptyB f))) S
instance ok_is_empty : HasFn Z "is_empty" ["fact"] 1 cEmpty := fn_intro sc_is_empty nm_is_empty (fun _ _ _ _ _ _ us hl => match us, hl with | [_], _ => rfl) (by tm_at "ctl") fun X _ xs S R hc => by
  obtain ⟨f, rfl, hR⟩ := hc
  exact sws_one (sw_retE (ev_cmp (cv_eq (by tm_at "ev") (by tm_at "ev") (lay_shp (factD_lay f) (by decide)) (lay_shp (factD_lay (.words [])) (by decide)))) (by rw [← empty_eqv f]; rfl) hR)
abbrev cWithout : Ct := fun xs S R => ∃ f o : Fact, xs = [.d f.D, .d o.D] ∧ f.okE ∧ R (.d (withoutF f o).D) S
instance ok_without : HasFn Z "without" ["fact", "other"] 3 cWithout := fn_intro sc_without nm_without (fun _ _ _ _ _ _ us hl => match us, hl with | [_, _], _ => rfl) (by tm_at "ctl") fun X _ xs S R hc => by
  obtain ⟨f, o, rfl, hf, hR⟩ := hc
  refine sws_setV (ev_call (by tm_at "av") ⟨o, rfl, rfl, rfl⟩) ?_
  cases ho : o.only with
  | none =>
    have e : withoutF f o = f := by unfold withoutF; rw [ho]
    rw [e] at hR
    refine sws_ifT (x := true || false) (tv_w (wv_or (y := false) (tv_cmp (cv_isN (x := PyData.none) (ev_var rfl))) fun h => absurd h (by decide))) rfl ?_
    tm_at "ret"
  | some w =>
    refine' sws_if2 (x := false || !f.isRow) ?a (fun h => ?b) fun h => ?c
    case a => exact tv_w (wv_or (tv_cmp (cv_isN (x := PyData.int w) (ev_var rfl))) fun h => wv_or1 (by tm_at "tv"))
    case b =>
      have e : withoutF f o = f := by
        unfold withoutF; rw [ho]
        cases f <;> first | rfl | cases h
      rw [e] at hR
      tm_at "ret"
    cases f with
    | words ws =>
      have e : withoutF (.words ws) o = .words (ws.filter fun x => !decide (x = w)) := by unfold withoutF; rw [ho]
      rw [e] at hR
      refine sws_one (sw_retE (ev_tup (av_cons ev_str (av_cons (ev_tupleL (ev_lcF (D := PyData.int) (P := fun x => !decide (x = w)) (F := PyData.int) [("x", 3)] [false, false, true, true] [false, false, false, true] [] (by decide +kernel) (by decide +kernel) (by decide) (iw_tup (by tm_at "ev")) (len_ws hf) (fun X1 _ t ht => by tm_at "tv") fun X1 _ t ht _ => by tm_at "ev")) av_nil)) rfl rfl) rfl hR)
    | _ => cases h
end
end K23
/-! ways: loaded, below, refined, branch_ways -/
namespace K23
open PySem PySem.Spec PyProof.Rows L2
theorem ofB_okE {lo hi : Int} (h0 : 0 ≤ lo) (h1 : hi ≤ TOPn) : (ofB lo hi).okE := by
  unfold ofB
  split
  · exact ⟨List.Pairwise.nil, fun _ h => absurd h List.not_mem_nil, by decide⟩
  · split
    · rename_i h2 h3
      refine ⟨by simp, fun w hw => ?_, by show 1 ≤ 16; decide⟩
      rw [List.mem_singleton.mp hw]
      exact ⟨h0, by omega⟩
    · split
      · trivial
      · exact ⟨h0, by omega, h1⟩
theorem only_ok {o : Fact} {c : Int} (h : o.okE) (e : o.only = some c) : okW c := by
  unfold Fact.only at e
  split at e
  · cases e
    exact h.2.1 _ List.mem_cons_self
  · cases e
theorem meet_okE {a b : Fact} (ha : a.okE) (hb : b.okE) : (meetF a b).okE := by
  have k : ∀ {ws : List Int} {p : Int → Bool}, (Fact.words ws).okE → (Fact.words (ws.filter p)).okE := fun {ws p} h =>
    ⟨h.1.filter p, fun w hw => h.2.1 w ((List.mem_filter.mp hw).1), Nat.le_trans (List.length_filter_le _ _) h.2.2⟩
  have bd : ∀ {f : Fact}, f.okE → (∀ ws, f ≠ .words ws) → 0 ≤ f.lo ∧ f.hi ≤ TOPn := fun {f} h n => by
    cases f with
    | top => exact ⟨Int.le_refl _, Int.le_refl _⟩
    | words ws => exact absurd rfl (n ws)
    | range lo hi => exact ⟨h.1, h.2.2⟩
  have nw : ∀ {a b : Fact}, a.okE → b.okE → (∀ ws, a ≠ .words ws) → (∀ ws, b ≠ .words ws) → (ofB (mxI a.lo b.lo) (mnI a.hi b.hi)).okE := fun {a b} ha hb na nb => by
    have h1 := bd ha na
    have h2 := bd hb nb
    refine ofB_okE ?_ ?_
    · show 0 ≤ if b.lo > a.lo then b.lo else a.lo
      split <;> omega
    · show (if b.hi < a.hi then b.hi else a.hi) ≤ TOPn
      split <;> omega
  cases a with
  | words ws => exact k ha
  | top =>
    cases b with
    | words vs => exact k hb
    | top => exact nw ha hb (fun _ h => by cases h) (fun _ h => by cases h)
    | range lo hi => exact nw ha hb (fun _ h => by cases h) (fun _ h => by cases h)
  | range lo hi =>
    cases b with
    | words vs => exact k hb
    | top => exact nw ha hb (fun _ h => by cases h) (fun _ h => by cases h)
    | range lo hi => exact nw ha hb (fun _ h => by cases h) (fun _ h => by cases h)
theorem without_okE {f o : Fact} (h : f.okE) : (withoutF f o).okE := by
  unfold withoutF
  split
  · exact ⟨h.1.filter _, fun w hw => h.2.1 w ((List.mem_filter.mp hw).1), Nat.le_trans (List.length_filter_le _ _) h.2.2⟩
  · exact h
theorem below_okE {f o : Fact} {less : Bool} (hf : f.okE) (ho : o.okE) : (belowF f o less).1.okE ∧ (belowF f o less).2.okE := by
  unfold belowF
  constructor
  · dsimp only
    split
    · exact hf
    · rename_i c e
      have k := only_ok ho e
      refine meet_okE hf ?_
      split
      · exact ofB_okE (by decide) (by have := k.2; omega)
      · exact ofB_okE k.1 (Int.le_refl _)
  · dsimp only
    split
    · exact ho
    · rename_i c e
      have k := only_ok hf e
      refine meet_okE ho ?_
      split
      · exact ofB_okE (by have := k.1; omega) (Int.le_refl _)
      · exact ofB_okE (by decide) k.2
theorem refAB_okE {op : Str} {taken : Bool} {a b : Fact} (ha : a.okE) (hb : b.okE) : (refAB op taken a b).1.okE ∧ (refAB op taken a b).2.okE := by
  unfold refAB
  split
  · split
    · exact ⟨meet_okE ha hb, meet_okE ha hb⟩
    · exact ⟨without_okE ha, without_okE hb⟩
  · split
    · exact below_okE ha hb
    · exact ⟨ha, hb⟩
theorem not_empty_ok {f : Fact} (h : f.okE) (e : emptyB f = false) : f.ok := by
  refine ⟨h, ?_⟩
  cases f with
  | words ws =>
    intro z
    subst z
    cases e
  | _ => trivial
section
variable {Z : Zx} [W : W0 Z]
abbrev cBelow : Ct := fun xs S R => ∃ (f o : Fact) (less : Bool), xs = [.d f.D, .d o.D, .d (.bool less)] ∧ f.okE ∧ o.okE ∧ R (.d (.tuple [(belowF f o less).1.D, (belowF f o less).2.D])) S
instance ok_below : HasFn Z "below" ["fact", "other", "less"] 3 cBelow := fn_intro sc_below nm_below (fun _ _ _ _ _ _ us hl => match us, hl with | [_, _, _], _ => rfl) (by tm_at "ctl") fun X _ xs S R hc => by
  obtain ⟨f, o, less, rfl, hf, ho, hR⟩ := hc
  refine sws_setV (ev_call (by tm_at "av") ⟨o, rfl, rfl, rfl⟩) ?_
  refine sws_setV (ev_call (by tm_at "av") ⟨f, rfl, rfl, rfl⟩) ?_
  tm_at "set"
  tm_at "set"
  have hm1 : ∀ c, o.only = some c → (if less = true then ofB 0 (c - 1) else ofB c TOPn).okE := fun c e => by
    have k := only_ok ho e
    split
    · exact ofB_okE (by decide) (by have := k.2; omega)
    · exact ofB_okE k.1 (Int.le_refl _)
  have hm2 : ∀ d, f.only = some d → (if less = true then ofB (d + 1) TOPn else ofB 0 d).okE := fun d e => by
    have k := only_ok hf e
    split
    · exact ofB_okE (by have := k.1; omega) (Int.le_refl _)
    · exact ofB_okE (by decide) k.2
  unfold belowF at hR
  cases e1 : o.only with
  | none =>
    rw [e1] at hR
    refine sws_ifN (tv_cmp (cv_notN (x := PyData.none) (ev_var rfl))) rfl ?_
    cases e2 : f.only with
    | none =>
      rw [e2] at hR
      refine sws_ifN (tv_cmp (cv_notN (x := PyData.none) (ev_var rfl))) rfl ?_
      tm_at "ret"
    | some d =>
      rw [e2] at hR
      refine sws_ifT (tv_cmp (cv_notN (x := PyData.int d) (ev_var rfl))) rfl ?_
      refine sws_setV (ev_call (av_cons (by tm_at "ev") (av_cons (ev_if (v := .d (if less = true then ofB (d + 1) TOPn else ofB 0 d).D) (tv_val (by tm_at "ev")) (fun h => EV.is (by tm_at "ev") (by rw [if_pos h])) fun h => EV.is (by tm_at "ev") (by rw [if_neg (c := less = true) (by rw [h]; decide)])) av_nil)) ⟨o, _, rfl, ho, hm2 d e2, rfl, rfl⟩) (sws_nil ?_)
      tm_at "ret"
  | some c =>
    rw [e1] at hR
    refine sws_ifT (tv_cmp (cv_notN (x := PyData.int c) (ev_var rfl))) rfl ?_
    refine sws_setV (ev_call (av_cons (by tm_at "ev") (av_cons (ev_if (v := .d (if less = true then ofB 0 (c - 1) else ofB c TOPn).D) (tv_val (by tm_at "ev")) (fun h => EV.is (by tm_at "ev") (by rw [if_pos h])) fun h => EV.is (by tm_at "ev") (by rw [if_neg (c := less = true) (by rw [h]; decide)])) av_nil)) ⟨f, _, rfl, hf, hm1 c e1, rfl, rfl⟩) (sws_nil ?_)
    cases e2 : f.only with
    | none =>
      rw [e2] at hR
      refine sws_ifN (tv_cmp (cv_notN (x := PyData.none) (ev_var rfl))) rfl ?_
      tm_at "ret"
    | some d =>
      rw [e2] at hR
      refine sws_ifT (tv_cmp (cv_notN (x := PyData.int d) (ev_var rfl))) rfl ?_
      refine sws_setV (ev_call (av_cons (by tm_at "ev") (av_cons (ev_if (v := .d (if less = true then ofB (d + 1) TOPn else ofB 0 d).D) (tv_val (by tm_at "ev")) (fun h => EV.is (by tm_at "ev") (by rw [if_pos h])) fun h => EV.is (by tm_at "ev") (by rw [if_neg (c := less = true) (by rw [h]; decide)])) av_nil)) ⟨o, _, rfl, ho, hm2 d e2, rfl, rfl⟩) (sws_nil ?_)
      tm_at "ret"
abbrev cRefined : Ct := fun xs S R => ∃ (op : Str) (taken : Bool) (fs : Facts) (ra rb : Int), xs = [.d (.str op), .d (.bool taken), .d (FD fs), .d (.int ra), .d (.int rb)] ∧ okT fs ∧ (0 ≤ ra ∧ ra ≤ 15) ∧ (0 ≤ rb ∧ rb ≤ 15) ∧ R (.d (match refF op taken fs ra rb with | none => .none | some t => FD t)) S
instance ok_refined : HasFn Z "refined" ["op", "taken", "facts", "ra", "rb"] 4 cRefined := fn_intro sc_refined nm_refined (fun _ _ _ _ _ _ us hl => match us, hl with | [_, _, _, _, _], _ => rfl) (by tm_at "ctl") fun X _ xs S R hc => by
  obtain ⟨op, taken, fs, ra, rb, rfl, hfs, ⟨a0, a1⟩, ⟨b0, b1⟩, hR⟩ := hc
  have ka := okT_at hfs a0 a1
  have kb := okT_at hfs b0 b1
  have ia := okT_atI hfs a0 a1
  have ib := okT_atI hfs b0 b1
  unfold refF at hR
  have kk := refAB_okE (op := op) (taken := taken) ka.2.1 kb.2.1
  generalize factAt fs ra = fa at *
  generalize factAt fs rb = fb at *
  refine sws_setV (ev_ixT (by tm_at "ev") (by tm_at "ev") ia) ?_
  refine sws_setV (ev_ixT (by tm_at "ev") (by tm_at "ev") ib) ?_
  refine sws_cons (SW.mono (E := { nx := fun δ' S' => δ' = [some (.d (.str op)), some (.d (.bool taken)), some (.d (FD fs)), some (.d (.int ra)), some (.d (.int rb)), some (.d (refAB op taken fa fb).1.D), some (.d (refAB op taken fa fb).2.D)] ∧ S' = S, rt := R, bk := fun _ _ => False, ct := fun _ _ => False }) ?st ?nx (fun _ _ h => h) (fun _ _ h => h.elim) fun _ _ h => h.elim)
  case nx =>
    rintro δ' S' ⟨rfl, rfl⟩
    generalize (refAB op taken fa fb).1 = ga at *
    generalize (refAB op taken fa fb).2 = gb at *
    refine' sws_if2 (x := emptyB ga || emptyB gb) ?a (fun h => ?b) fun h => ?c
    case a => tm_at "tv"
    case b =>
      rw [if_pos h] at hR
      tm_at "ret"
    rw [if_neg (by rw [h]; decide)] at hR
    exact sws_one (sw_retE (ev_call (av_cons (ev_call (by tm_at "av") ⟨fs, ra, ga, rfl, hfs.1, ⟨a0, a1⟩, rfl, rfl⟩) (av_cons (by tm_at "ev") (av_cons (by tm_at "ev") av_nil))) ⟨setF fs ra ga, rb, gb, rfl, by rw [setF_len]; exact hfs.1, ⟨b0, b1⟩, rfl, rfl⟩) rfl hR)
  case st =>
    unfold refAB
    refine' sw_if (x := inS op ["beq", "bne"]) ?a1 (fun h => ?b1) fun h => ?c1
    case a1 => tm_at "tv"
    case b1 =>
      rw [if_pos h]
      refine' sws_cons (sw_if (x := decide (op = "beq") == taken) ?a2 (fun h2 => ?b2) fun h2 => ?c2)
      case a2 => exact tv_cmp (cv_eqB (by tm_at "ev") (by tm_at "ev"))
      case b2 =>
        rw [if_pos h2]
        refine sws_setV (ev_call (by tm_at "av") ⟨fa, fb, rfl, ka.2.1, kb.2.1, rfl, rfl⟩) ?_
        refine sws_setV (ev_var rfl) (sws_nil (sws_nil ⟨rfl, rfl⟩))
      case c2 =>
        rw [if_neg (by rw [h2]; decide)]
        refine sws_setV (ev_call (av_cons (ev_ixT (by tm_at "ev") (by tm_at "ev") ia) (av_cons (ev_ixT (by tm_at "ev") (by tm_at "ev") ib) av_nil)) ⟨fa, fb, rfl, ka.2.1, rfl, rfl⟩) ?_
        refine sws_setV (ev_call (av_cons (ev_ixT (by tm_at "ev") (by tm_at "ev") ib) (av_cons (ev_ixT (by tm_at "ev") (by tm_at "ev") ia) av_nil)) ⟨fb, fa, rfl, kb.2.1, rfl, rfl⟩) (sws_nil (sws_nil ⟨rfl, rfl⟩))
    case c1 =>
      rw [if_neg (by rw [h]; decide)]
      refine' sws_cons (sw_if (x := inS op ["bltu", "bgeu"]) ?a3 (fun h2 => ?b3) fun h2 => ?c3)
      case a3 => tm_at "tv"
      case b3 =>
        rw [if_pos h2]
        exact sws_cons (sw_asg (EV.use (ev_call (av_cons (by tm_at "ev") (av_cons (by tm_at "ev") (av_cons (ev_cmp (cv_eqB (by tm_at "ev") (by tm_at "ev"))) av_nil))) ⟨fa, fb, _, rfl, ka.2.1, kb.2.1, rfl, rfl⟩) (gw_tup (gws_cons (gws_cons (gws_nil (sws_nil (sws_nil ⟨rfl, rfl⟩))))))))
      case c3 =>
        rw [if_neg (by rw [h2]; decide)]
        exact sws_nil (sws_nil ⟨rfl, rfl⟩)
end
end K23
/-! ways: loaded, alu_fact, the ways of an instruction -/
namespace K23
open PySem PySem.Spec PyProof.Rows L2
theorem ldS_len {m : Img} {c : Int} : ∀ (r : List Int) (st : Bool × List Int), (r.foldl (ldS m c) st).2.length ≤ st.2.length + r.length
  | [], st => Nat.le_add_right _ _
  | a :: r, st => by
    rw [List.foldl_cons, List.length_cons]
    have h := ldS_len (m := m) (c := c) r (ldS m c st a)
    have h2 : (ldS m c st a).2.length ≤ st.2.length + 1 := by
      unfold ldS
      split
      · exact Nat.le_succ _
      · split
        · rw [List.length_append]; exact Nat.le_refl _
        · exact Nat.le_succ _
    omega
theorem part_at {s : Seg} {o i : Int} (h0 : 0 ≤ o) (h1 : o + 4 ≤ (s.bs.length : Int)) (hi : 0 ≤ i) (hi4 : i < 4) : atI (cutD (s.bs.map PyData.int) (some o) (some (o + 4))) i = some (.int (byteAt s (o + i))) := by
  refine atIp hi ?_
  rw [cut_mid h0 (by omega) (by rw [List.length_map]; omega), List.getElem?_take_of_lt (by omega), List.getElem?_drop, List.getElem?_map]
  have e : o.toNat + i.toNat = (o + i).toNat := by omega
  have hl : (o + i).toNat < s.bs.length := by omega
  rw [e]
  unfold byteAt
  rw [List.getElem?_eq_getElem hl]; rfl
theorem byte_abs {s : Seg} (h : s.ok) (i : Int) : (byteAt s i).natAbs < 2 ^ 64 := by
  unfold byteAt
  cases e : s.bs[i.toNat]? with
  | none => decide
  | some b =>
    have := h.1 b (List.mem_of_getElem? e)
    show b.natAbs < _
    omega
theorem nonempty_eqv (ws : List Int) : (!PyData.eqv (.list (ws.map PyData.int)) (.list [])) = !ws.isEmpty := by
  cases ws <;> rfl
section
variable {Z : Zx} [W : W0 Z]
theorem ev_plainOf {X : Cx} {N : List Str} {sc : Scope} {bs ls : List Bool} {gs : List Str} {k : Nat} [B : Bd Z X N sc bs ls gs k] {b : Expr} {δ : Dl} {S : Sto} {pos p : Pos} {x y : Str} (j : Nat) [g : GAt gs "PLAIN_OF"] (hj : plainOf[j]? = some (x, y)) (hb : EV X b δ S (.d (.str x))) (hs : PlainIx b := by exact fun _ _ => rfl) : EV X (.Subscript (.Name "PLAIN_OF" p) b pos) δ S (.d (.str y)) := .mk fun O σ H F Q M s kq => by
  obtain ⟨g1, g2, g3⟩ := B.gl "PLAIN_OF" g.h
  obtain ⟨h1, h2⟩ := plain_of (Z := Z) j hj
  refine to_e (pe_ix ix_kdict (pe_glob (v := .ref (He.ga Z.K "PLAIN_OF")) g1 (by rw [B.mg]; exact h1) rfl g2) pw_e hs) ?_
  refine hb O σ H F _ M s fun v S1 u H1 F1 e1 M1 r1 z => ?_
  obtain ⟨rfl, rfl⟩ := z
  cases r1
  exact ⟨_, x, .str y, rfl, rfl, by rw [B.K, B.w]; exact h2, (kq.at e1).dat M1 (.str _) ⟨rfl, rfl⟩⟩
abbrev cLoaded : Ct := fun xs S R => ∃ (m : Img) (op : Str) (f : Fact), xs = [.d m.D, .d (.str op), .d f.D] ∧ m.ok ∧ f.okE ∧ R (.d (loadedF m op f).D) S
instance ok_loaded : HasFn Z "loaded" ["image", "op", "row"] 3 cLoaded := fn_intro sc_loaded nm_loaded (fun _ _ _ _ _ _ us hl => match us, hl with | [_, _, _], _ => rfl) (by tm_at "ctl") fun X B xs S R hc => by
  obtain ⟨m, op, f, rfl, hm, hf, hR⟩ := hc
  tm_at "set"
  refine sws_cons (SW.mono (E := { nx := fun δ' S' => δ' = [some (.d m.D), some (.d (.str op)), some (.d f.D), some (.d (ld0 op).D), none, none, none, none, none, none, none] ∧ S' = S, rt := R, bk := fun _ _ => False, ct := fun _ _ => False }) ?st ?nx (fun _ _ h => h) (fun _ _ h => h.elim) fun _ _ h => h.elim)
  case st =>
    unfold ld0
    refine' sw_if (x := decide (op = "lbu")) ?a1 (fun h => ?b1) fun h => ?c1
    case a1 => tm_at "tv"
    case b1 =>
      rw [if_pos (of_decide_eq_true h)]
      exact sws_setV (by tm_at "ev") (sws_nil ⟨rfl, rfl⟩)
    case c1 =>
      rw [if_neg (of_decide_eq_false h)]
      exact sws_nil ⟨rfl, rfl⟩
  rintro δ' S' ⟨rfl, rfl⟩
  generalize hv0 : ld0 op = v0 at *
  cases f with
  | top =>
    have hR : R (.d (ld0 op).D) S' := hR
    rw [hv0] at hR
    refine sws_ifT (x := !false) (tv_not (tv_val (ev_call (by tm_at "av") ⟨.top, rfl, rfl, rfl⟩))) rfl ?_
    tm_at "ret"
  | range lo hi =>
    have hR : R (.d (ld0 op).D) S' := hR
    rw [hv0] at hR
    refine sws_ifT (x := !false) (tv_not (tv_val (ev_call (by tm_at "av") ⟨.range lo hi, rfl, rfl, rfl⟩))) rfl ?_
    tm_at "ret"
  | words ws =>
    have hR : R (.d (if (ldF m op ws).1 = true then ofWs (ldF m op ws).2 else ld0 op).D) S' := hR
    rw [hv0] at hR
    unfold ldF at hR
    refine sws_ifN (x := !true) (tv_not (tv_val (ev_call (by tm_at "av") ⟨.words ws, rfl, rfl, rfl⟩))) rfl ?_
    have hfit : ∀ a ∈ fitF m (cntF op) ws, loadB m a (cntF op) = true := fun a ha => (List.mem_filter.mp ha).2
    have hlen : (fitF m (cntF op) ws).length ≤ 16 := Nat.le_trans (List.length_filter_le _ _) hf.2.2
    refine sws_setLcD (ds := (fitF m (cntF op) ws).map PyData.int) (by rw [B.sc]; decide +kernel) (Nat.le_of_ble_eq_true rfl) (lcF (D := PyData.int) (ts := ws) (P := fun a => loadB m a (cntF op)) (F := PyData.int) [("address", 4)] [true, true, false, false, true, false, false, false, false, false, false] [false, false, false, false, true, false, false, false, false, false, false] ["can_load", "count_of"] (by decide +kernel) (by decide +kernel) (by decide) (iw_tup (by tm_at "ev")) (len_ws hf)
      (fun X1 _ t ht => tv_val (ev_call (av_cons (by tm_at "ev") (av_cons (by tm_at "ev") (av_cons (by tm_at "ev") av_nil))) ⟨m, t, cntF op, rfl, hm, rfl, rfl⟩)) (fun X1 _ t ht _ => by tm_at "ev") fun p hp => ⟨p, rfl, hp, rfl⟩) ?_ (swaps_true B.sc (by decide +kernel))
    generalize fitF m (cntF op) ws = fit at *
    refine sws_setV (v := .d (.bool (decide (op = "lw") && !fit.isEmpty))) (ev_andV (by tm_at "ev") fun _ => ev_one (EV.is (ev_cmp (cv_ne (by tm_at "ev") (ev_lst av_nil rfl rfl) (lay_shp (lay_lst (n := 0) fun d hd => by obtain ⟨i, _, rfl⟩ := List.mem_map.mp hd; exact lay_int) (by decide)) (lay_shp (lay_lst (n := 0) fun d hd => absurd hd List.not_mem_nil) (by decide)))) (by rw [nonempty_eqv]))) ?_
    refine sws_newL (xs := []) av_nil (by decide) fun q hq => ?_
    refine sws_cons (sw_forT (D := PyData.int) (ts := fit) (iw_list (by tm_at "ev"))
      (fun r δ' S2 => ∃ (l : List Int) (st : Bool × List Int) (u v w x : Option SV), fit = l ++ r ∧ st = l.foldl (ldS m (cntF op)) (decide (op = "lw") && !fit.isEmpty, []) ∧ (st.1 = true → op = "lw") ∧ δ' = [some (.d m.D), some (.d (.str op)), some (.d (Fact.words ws).D), some (.d v0.D), u, some (.d (.list (fit.map PyData.int))), some (.d (.bool st.1)), some (.r q), v, w, x] ∧ S2 = supd S' q (.lst ((st.2.map PyData.int).map SV.d)))
      ⟨[], _, none, none, none, none, rfl, rfl, fun h => of_decide_eq_true (Bool.and_eq_true_iff.mp h).1, rfl, rfl⟩ (fun _ _ _ _ => trivial) ?_ ?_)
    · rintro a r δ' S2 ⟨l, st, u, v, w, x, e1, e2, e3, rfl, rfl⟩
      have ha : a ∈ fit := by rw [e1]; simp
      have hlb := hfit a ha
      have h0 : 0 ≤ findS m a (cntF op) := of_decide_eq_true (Bool.and_eq_true_iff.mp hlb).2
      have ⟨f1, f2⟩ := findS_ok h0
      have hsok : (segAt m (findS m a (cntF op))).ok := hm.2 _ (List.mem_of_getElem? f1)
      have hsd : atI (m.segs.map Seg.D) (findS m a (cntF op)) = some (segAt m (findS m a (cntF op))).D := atIp h0 (by rw [List.getElem?_map, f1]; rfl)
      have e4 : (l ++ [a]).foldl (ldS m (cntF op)) (decide (op = "lw") && !fit.isEmpty, []) = ldS m (cntF op) st a := by rw [List.foldl_append, ← e2]; rfl
      have hst : st.2.length ≤ 16 := by
        have k1 := ldS_len (m := m) (c := cntF op) l (decide (op = "lw") && !fit.isEmpty, [])
        rw [← e2] at k1
        have k2 : l.length ≤ fit.length := by rw [e1, List.length_append]; omega
        simp only [List.length_nil] at k1
        omega
      refine ew_tg (sws_setV (ev_call (av_cons (by tm_at "ev") (av_cons (by tm_at "ev") (av_cons (by tm_at "ev") av_nil))) ⟨m, a, cntF op, rfl, hm, rfl, rfl⟩) ?_)
      unfold ldS at e4
      generalize hk : findS m a (cntF op) = k at *
      generalize hs : segAt m k = s at *
      refine' sws_cons (sw_if (x := s.w) ?ta (fun h => ?tb) fun h => ?tc)
      case ta => exact tv_val (ev_ixT (ev_ixT (by tm_at "ev") (by tm_at "ev") hsd) (by tm_at "ev") rfl)
      case tb =>
        rw [if_pos h] at e4
        exact sws_setV (by tm_at "ev") (sws_nil (sws_nil ⟨l ++ [a], (false, st.2), _, _, _, _, by rw [e1]; simp, e4.symm, (fun z => by cases z), rfl, rfl⟩))
      rw [if_neg (c := s.w = true) (by rw [h]; decide)] at e4
      refine' sws_cons (sw_if (x := st.1) ?ua (fun h2 => ?ub) fun h2 => ?uc)
      case ua => exact tv_val (by tm_at "ev")
      case uc =>
        rw [if_neg (by rw [h2]; decide)] at e4
        exact sws_nil (sws_nil (sws_nil ⟨l ++ [a], st, _, _, _, _, by rw [e1]; simp, e4.symm, e3, rfl, rfl⟩))
      rw [if_pos h2] at e4
      have hop := e3 h2
      have hc4 : cntF op = 4 := by rw [hop]; decide
      obtain ⟨i1, i2⟩ := Bool.and_eq_true_iff.mp f2
      have i1 := of_decide_eq_true i1
      have i2 := of_decide_eq_true i2
      rw [hc4] at i2
      have o0 : 0 ≤ a - s.base := by omega
      have o1 : a - s.base + 4 ≤ (s.bs.length : Int) := by omega
      refine sws_setV (ev_sub (by tm_at "ev") (ev_ixT (ev_ixT (by tm_at "ev") (by tm_at "ev") hsd) (by tm_at "ev") rfl)) ?_
      refine sws_setV (ev_slT (ev_ixT (ev_ixT (by tm_at "ev") (by tm_at "ev") hsd) (by tm_at "ev") rfl) (ov_some (by tm_at "ev")) (ov_some (by tm_at "ev"))) ?_
      have p0 := part_at (s := s) (i := 0) o0 o1 (by decide) (by decide)
      have p1 := part_at (s := s) (i := 1) o0 o1 (by decide) (by decide)
      have p2 := part_at (s := s) (i := 2) o0 o1 (by decide) (by decide)
      have p3 := part_at (s := s) (i := 3) o0 o1 (by decide) (by decide)
      rw [Int.add_zero] at p0
      refine sws_app (v := .d (.int (word4 s (a - s.base)))) (by tm_at "ev") supd_same (ev_add (ev_add (ev_add (ev_ixT (by tm_at "ev") (by tm_at "ev") p0) (ev_shl (ev_ixT (by tm_at "ev") (by tm_at "ev") p1) (by tm_at "ev") ⟨by decide, by decide, byte_abs hsok _⟩)) (ev_shl (ev_ixT (by tm_at "ev") (by tm_at "ev") p2) (by tm_at "ev") ⟨by decide, by decide, byte_abs hsok _⟩)) (ev_shl (ev_ixT (by tm_at "ev") (by tm_at "ev") p3) (by tm_at "ev") ⟨by decide, by decide, byte_abs hsok _⟩)) ?_ (sws_nil (sws_nil (sws_nil ⟨l ++ [a], (true, st.2 ++ [word4 s (a - s.base)]), some (.d (.int a)), some (.d (.int k)), some (.d (.int (a - s.base))), some (.d (.tuple (cutD (s.bs.map PyData.int) (some (a - s.base)) (some (a - s.base + 4))))), by rw [e1]; simp, e4.symm, fun _ => hop, ?_, ?_⟩)))
      · rw [List.length_map, List.length_map]; unfold sizeLine; omega
      · rw [h2]; rfl
      · rw [supd_supd]
        refine congrArg (fun z => supd S' q (.lst z)) ?_
        simp only [List.map_append, List.map_cons, List.map_nil]
    · rintro δ' S2 ⟨l, st, u, v, w, x, e1, e2, e3, rfl, rfl⟩
      rw [List.append_nil] at e1
      have hst : st.2.length ≤ 16 := by
        have k1 := ldS_len (m := m) (c := cntF op) l (decide (op = "lw") && !fit.isEmpty, [])
        rw [← e2, ← e1] at k1
        simp only [List.length_nil] at k1
        omega
      rw [← e1] at e2
      rw [← e2] at hR
      refine sws_frz (i := 7) (S' := S') rfl supd_same ((SLe.refl S').new hq) hq ?_
      refine' sws_if2 (x := st.1) ?va (fun h => ?vb) fun h => ?vc
      case va => exact tv_val (by tm_at "ev")
      case vb =>
        rw [if_pos h] at hR
        refine sws_setV (ev_call (by tm_at "av") ⟨st.2, rfl, by omega, rfl, rfl⟩) (sws_nil ?_)
        tm_at "ret"
      case vc =>
        rw [if_neg (by rw [h]; decide)] at hR
        tm_at "ret"
end
end K23
/-! plain law 1: facts stay valid -/
namespace K23
open PySem PySem.Spec PyProof.Rows L2
theorem ofB_ok {lo hi : Int} (h0 : 0 ≤ lo) (h1 : lo ≤ hi) (h2 : hi ≤ TOPn) : (ofB lo hi).ok := by
  refine ⟨ofB_okE h0 h2, ?_⟩
  unfold ofB
  rw [if_neg (by omega)]
  split
  · exact List.cons_ne_nil _ _
  · split <;> trivial
theorem ofWs_ok {ns : List Int} (h0 : ns ≠ []) (h : ∀ n ∈ ns, okW n) : (ofWs ns).ok := by
  have hne : sortD ns ≠ [] := fun e => by
    cases ns with
    | nil => exact h0 rfl
    | cons a r =>
      have : a ∈ sortD (a :: r) := sortD_mem.mpr List.mem_cons_self
      rw [e] at this
      exact absurd this List.not_mem_nil
  have hk : ∀ n ∈ sortD ns, okW n := fun n hn => h n (sortD_mem.mp hn)
  unfold ofWs
  split
  · rename_i hl
    exact ⟨⟨sortD_asc, hk, hl⟩, hne⟩
  · have a := hk _ (head_mem hne)
    have b := hk _ (last_mem hne)
    exact ofB_ok a.1 (asc_ends sortD_asc _ (last_mem hne)).1 b.2
theorem or_bd {x y : Int} (hx : okW x) (hy : okW y) : okW (Builtin.bitOr x y) := by
  obtain ⟨x0, x1⟩ := hx
  obtain ⟨y0, y1⟩ := hy
  unfold TOPn at x1 y1
  rw [Bits.bitOr_pp x0 y0]
  have := @Nat.or_lt_two_pow x.toNat y.toNat 32 (by omega) (by omega)
  unfold okW TOPn
  omega
theorem xor_bd {x y : Int} (hx : okW x) (hy : okW y) : okW (Builtin.bitXor x y) := by
  obtain ⟨x0, x1⟩ := hx
  obtain ⟨y0, y1⟩ := hy
  unfold TOPn at x1 y1
  rw [Bits.bitXor_pp x0 y0]
  have := @Nat.xor_lt_two_pow x.toNat y.toNat 32 (by omega) (by omega)
  unfold okW TOPn
  omega
theorem m32_ok (v : Int) : okW (m32 v) := bitAnd_bd (by decide)
theorem wrap_ok (v : Int) : okW (wrapF v) := bitAnd_bd (by decide)
theorem div_bd {x d : Int} (hx : okW x) (hd : 0 < d) : okW (x / d) := ⟨Int.ediv_nonneg hx.1 (by omega), Int.le_trans (Int.ediv_le_self _ hx.1) hx.2⟩
theorem pow_pos' (n : Nat) : (0 : Int) < 2 ^ n := Int.pow_pos (by decide)
theorem comp_ok {op : Str} {x y : Int} (hx : okW x) (hy : okW y) : okW (comp op x y) := by
  unfold comp
  split; · exact m32_ok _
  split; · exact m32_ok _
  split; · exact m32_ok _
  split; · exact ⟨(bitAnd_bd hy.1).1, Int.le_trans (bitAnd_bd hy.1).2 hy.2⟩
  split; · exact or_bd hx hy
  split; · exact xor_bd hx hy
  unfold compR
  split; · exact m32_ok _
  split; · exact div_bd hx (pow_pos' _)
  split; · exact m32_ok _
  split; · split <;> exact ⟨by decide, by decide⟩
  split; · split <;> exact ⟨by decide, by decide⟩
  split
  · split
    · exact ⟨by decide, by decide⟩
    · rename_i h
      exact div_bd hx (by have := hy.1; omega)
  split
  · exact hx
  · rename_i h
    have h0 : 0 < y := by have := hy.1; omega
    have e : x - x / y * y = x % y := by
      have := Int.mul_ediv_add_emod x y
      rw [Int.mul_comm] at this
      omega
    rw [e]
    have h1 := Int.emod_nonneg x (by omega : y ≠ 0)
    have h2 : x / y * y ≥ 0 := Int.mul_nonneg (Int.ediv_nonneg hx.1 (by omega)) (by omega)
    exact ⟨h1, by have := hx.2; omega⟩
theorem bits32 {v : Int} (h : okW v) : Builtin.Int.intBits v ≤ 32 := by
  unfold Builtin.Int.intBits
  split
  · decide
  · rename_i h0
    obtain ⟨h1, h2⟩ := h
    unfold TOPn at h2
    have hne : v.natAbs ≠ 0 := by
      intro z
      exact h0 (by simp; omega)
    have : v.natAbs.log2 < 32 := (Nat.log2_lt hne).mpr (by omega)
    omega
theorem mx_ok {a b : Int} (ha : okW a) (hb : okW b) : okW (mxI a b) := by
  show okW (if b > a then b else a)
  split
  · exact hb
  · exact ha
theorem mask_ok {a b : Int} (ha : okW a) (hb : okW b) : okW (maskF a b) := by
  have h := bits32 (mx_ok ha hb)
  unfold maskF
  have e : ((Builtin.Int.intBits (mxI a b) : Nat) : Int).toNat = Builtin.Int.intBits (mxI a b) := Int.toNat_natCast _
  rw [e]
  have h1 : (2 : Int) ^ Builtin.Int.intBits (mxI a b) ≤ 2 ^ 32 := by exact_mod_cast Nat.pow_le_pow_right (by decide) h
  have h2 := pow_pos' (Builtin.Int.intBits (mxI a b))
  unfold okW TOPn
  omega
theorem parts_ok {c : Int} : ∀ (r : List Nat) (acc : List Int), (∀ i ∈ r, i < 32) → (acc ≠ [] ∧ ∀ w ∈ acc, okW w) → (r.foldl (partS c) acc ≠ [] ∧ ∀ w ∈ r.foldl (partS c) acc, okW w)
  | [], _, _, h => h
  | i :: r, acc, hi, h => by
    rw [List.foldl_cons]
    refine parts_ok r _ (fun j hj => hi j (List.mem_cons_of_mem _ hj)) ?_
    unfold partS
    split
    · refine ⟨fun e => h.1 (List.append_eq_nil_iff.mp e).1, fun w hw => ?_⟩
      rcases List.mem_append.mp hw with z | z
      · exact h.2 w z
      · obtain ⟨v, hv, rfl⟩ := List.mem_map.mp z
        refine or_bd (h.2 v hv) ?_
        have e : (0 + (i : Int)).toNat = i := by omega
        rw [e, Int.one_mul]
        have h1 := pow_pos' i
        have h2 : (2 : Int) ^ i ≤ 2 ^ 31 := by exact_mod_cast Nat.pow_le_pow_right (by decide) (by have := hi i List.mem_cons_self; omega)
        unfold okW TOPn
        omega
    · exact h
theorem resW_ok {op : Str} {lo hi c : Int} (h0 : 0 ≤ lo) (h1 : lo ≤ hi) (h2 : hi ≤ TOPn) (hc : okW c) : (resW op lo hi c).ok := by
  have tp : Fact.top.ok := ⟨trivial, trivial⟩
  have hi0 : okW hi := ⟨by omega, h2⟩
  have lo0 : okW lo := ⟨h0, by omega⟩
  unfold resW
  split
  · exact ofB_ok (div_bd lo0 (pow_pos' _)).1 (Int.ediv_le_ediv (pow_pos' _) h1) (div_bd hi0 (pow_pos' _)).2
  split
  · rename_i h
    have h := of_decide_eq_true (Bool.and_eq_true_iff.mp h).2
    exact ofB_ok (Int.mul_nonneg h0 (Int.le_of_lt (pow_pos' _))) (Int.mul_le_mul_of_nonneg_right h1 (Int.le_of_lt (pow_pos' _))) h
  split
  · rename_i h
    have h := of_decide_eq_true (Bool.and_eq_true_iff.mp h).2
    exact ofB_ok (div_bd lo0 h).1 (Int.ediv_le_ediv h h1) (div_bd hi0 h).2
  split
  · rename_i h
    have h := of_decide_eq_true (Bool.and_eq_true_iff.mp h).2
    split
    · exact ofB_ok h0 h1 h2
    · exact ofB_ok (by decide) (by omega) (by have := hc.2; omega)
  exact tp
theorem resB_ok {op : Str} {low high lo hi : Int} (a0 : 0 ≤ low) (a1 : low ≤ high) (a2 : high ≤ TOPn) (b0 : 0 ≤ lo) (b1 : lo ≤ hi) (b2 : hi ≤ TOPn) : (resB op low high lo hi).ok := by
  unfold resB
  split
  · rename_i h
    have h := of_decide_eq_true (Bool.and_eq_true_iff.mp h).2
    exact ofB_ok (by omega) (by omega) h
  split
  · rename_i h
    have h := of_decide_eq_true (Bool.and_eq_true_iff.mp h).2
    exact ofB_ok (by omega) (by omega) (by omega)
  split
  · have k := parts_ok (c := lo) (List.range 32) [0] (fun i hi => List.mem_range.mp hi) ⟨List.cons_ne_nil _ _, fun w hw => by rw [List.mem_singleton.mp hw]; exact ⟨by decide, by decide⟩⟩
    exact ofWs_ok k.1 k.2
  split
  · refine ofB_ok (by decide) ?_ ?_
    · show 0 ≤ if hi < high then hi else high
      split <;> omega
    · show (if hi < high then hi else high) ≤ TOPn
      split <;> omega
  split
  · have k := mask_ok (a := high) (b := hi) ⟨by omega, a2⟩ ⟨by omega, b2⟩
    exact ofB_ok (by decide) k.1 k.2
  split
  · exact ⟨⟨by decide, fun w hw => by
      rcases List.mem_cons.mp hw with e | e
      · rw [e]; exact ⟨by decide, by decide⟩
      · rw [List.mem_singleton.mp e]; exact ⟨by decide, by decide⟩, by decide⟩, List.cons_ne_nil _ _⟩
  split
  · exact resW_ok a0 a1 a2 ⟨b0, by omega⟩
  · exact ⟨trivial, trivial⟩
theorem resF_ok {op : Str} {a b : Fact} (ha : a.ok) (hb : b.ok) : (resF op a b).ok := by
  have ⟨a1, a2, a3⟩ := ok_lo ha
  have ⟨b1, b2, b3⟩ := ok_lo hb
  cases hr : rowsB a b 64 with
  | false => rw [resF_rest hr]; exact resB_ok a1 a2 a3 b1 b2 b3
  | true =>
    cases a <;> cases b <;> first | exact absurd hr Bool.false_ne_true | skip
    rename_i ws vs
    rw [resF_rows (of_decide_eq_true hr)]
    refine ofWs_ok ?_ fun n hn => ?_
    · intro e
      have k : (rorF op ws vs).length = ws.length * vs.length := flat_len ws
      rw [e] at k
      have h1 : ws.length ≠ 0 := fun z => ha.2 (List.length_eq_zero_iff.mp z)
      have h2 : vs.length ≠ 0 := fun z => hb.2 (List.length_eq_zero_iff.mp z)
      exact Nat.mul_ne_zero h1 h2 k.symm
    · obtain ⟨x, hx, hn⟩ := List.mem_flatMap.mp hn
      obtain ⟨y, hy, rfl⟩ := List.mem_map.mp hn
      exact comp_ok (ha.1.2.1 x hx) (hb.1.2.1 y hy)
theorem joinF_ok {a b : Fact} (ha : a.ok) (hb : b.ok) : (joinF a b).ok := by
  have ⟨a1, a2, a3⟩ := ok_lo ha
  have ⟨b1, b2, b3⟩ := ok_lo hb
  have rest : (ofB (mnI a.lo b.lo) (mxI a.hi b.hi)).ok := by
    refine ofB_ok ?_ ?_ ?_
    · show 0 ≤ if b.lo < a.lo then b.lo else a.lo
      split <;> omega
    · show (if b.lo < a.lo then b.lo else a.lo) ≤ (if b.hi > a.hi then b.hi else a.hi)
      split <;> split <;> omega
    · show (if b.hi > a.hi then b.hi else a.hi) ≤ TOPn
      split <;> omega
  cases a <;> cases b <;> first | exact rest | skip
  rename_i ws vs
  refine ofWs_ok (fun e => ha.2 (List.append_eq_nil_iff.mp e).1) fun n hn => ?_
  rcases List.mem_append.mp hn with z | z
  · exact ha.1.2.1 n z
  · exact hb.1.2.1 n z
theorem one_ok {w : Int} (h : okW w) : (Fact.words [w]).ok := ⟨⟨by simp, fun v hv => by rw [List.mem_singleton.mp hv]; exact h, by show 1 ≤ 16; decide⟩, List.cons_ne_nil _ _⟩
theorem byte_bd {s : Seg} (h : s.ok) (i : Int) : 0 ≤ byteAt s i ∧ byteAt s i ≤ 255 := by
  unfold byteAt
  cases e : s.bs[i.toNat]? with
  | none => exact ⟨by decide, by decide⟩
  | some b => exact h.1 b (List.mem_of_getElem? e)
theorem word4_ok {s : Seg} (h : s.ok) (o : Int) : okW (word4 s o) := by
  have h0 := byte_bd h o
  have h1 := byte_bd h (o + 1)
  have h2 := byte_bd h (o + 2)
  have h3 := byte_bd h (o + 3)
  have e8 : (2 : Int) ^ (8 : Int).toNat = 256 := by decide
  have e16 : (2 : Int) ^ (16 : Int).toNat = 65536 := by decide
  have e24 : (2 : Int) ^ (24 : Int).toNat = 16777216 := by decide
  unfold word4 okW TOPn
  rw [e8, e16, e24]
  omega
theorem segAt_ok {m : Img} (hm : m.ok) (k : Int) : (segAt m k).ok := by
  unfold segAt
  cases e : m.segs[k.toNat]? with
  | none => exact ⟨fun _ h => absurd h List.not_mem_nil, by decide, by decide, by decide⟩
  | some s => exact hm.2 s (List.mem_of_getElem? e)
theorem ldS_ok {m : Img} {c : Int} (hm : m.ok) : ∀ (r : List Int) (st : Bool × List Int), (∀ w ∈ st.2, okW w) → ((r.foldl (ldS m c) st).1 = true → r ≠ [] ∨ st.2 ≠ [] → (r.foldl (ldS m c) st).2 ≠ []) ∧ (∀ w ∈ (r.foldl (ldS m c) st).2, okW w) ∧ (st.1 = false → (r.foldl (ldS m c) st).1 = false)
  | [], st, h => ⟨fun _ z => z.elim (fun z => absurd rfl z) id, h, id⟩
  | a :: r, st, h => by
    rw [List.foldl_cons]
    have h2 : (∀ w ∈ (ldS m c st a).2, okW w) ∧ ((ldS m c st a).1 = true → (ldS m c st a).2 ≠ []) ∧ (st.1 = false → (ldS m c st a).1 = false) := by
      unfold ldS
      split
      · exact ⟨h, fun z => (by cases z), fun _ => rfl⟩
      · split
        · rename_i z
          refine ⟨fun w hw => ?_, fun _ e => absurd (List.append_eq_nil_iff.mp e).2 (List.cons_ne_nil _ _), fun q => by rw [q] at z; cases z⟩
          rcases List.mem_append.mp hw with q | q
          · exact h w q
          · rw [List.mem_singleton.mp q]; exact word4_ok (segAt_ok hm _) _
        · rename_i z
          exact ⟨h, fun q => absurd q z, id⟩
    have k := ldS_ok (c := c) hm r (ldS m c st a) h2.1
    refine ⟨fun q _ => ?_, k.2.1, fun q => k.2.2 (h2.2.2 q)⟩
    refine k.1 q (.inr (h2.2.1 ?_))
    cases e : (ldS m c st a).1 with
    | true => rfl
    | false => rw [k.2.2 e] at q; cases q
theorem ld0_ok (op : Str) : (ld0 op).ok := by
  unfold ld0
  split
  · exact ofB_ok (by decide) (by decide) (by decide)
  · exact ⟨trivial, trivial⟩
theorem loadedF_ok {m : Img} {op : Str} {f : Fact} (hm : m.ok) : (loadedF m op f).ok := by
  cases f with
  | words ws =>
    unfold loadedF
    dsimp only
    split
    · rename_i h
      have k := ldS_ok (c := cntF op) hm (fitF m (cntF op) ws) (decide (op = "lw") && !(fitF m (cntF op) ws).isEmpty, []) (fun _ h => absurd h List.not_mem_nil)
      refine ofWs_ok (k.1 h (.inl fun e => ?_)) k.2.1
      unfold ldF at h
      rw [e] at h
      simp at h
    · exact ld0_ok op
  | top => exact ld0_ok op
  | range lo hi => exact ld0_ok op
end K23
/-! ways: the ways of an instruction -/
namespace K23
open PySem PySem.Spec PyProof.Rows L2
abbrev Row := Int × Facts
def rowD (p : Row) : PyData := .tuple [.int p.1, FD p.2]
abbrev rowsD (rs : List Row) : PyData := .list (rs.map rowD)
def bwS (a : Int) (i : Ins) (fs : Facts) (taken : Bool) : List Row :=
  if (decide (decF i.op (factAt fs i.a) (factAt fs i.b) = none) || decide (decF i.op (factAt fs i.a) (factAt fs i.b) = some taken)) = true then
    (match refF i.op taken fs i.a i.b with | none => [] | some t => [(wrapF (if taken = true then a + 4 * i.c else a + 4), t)]) else []
def bwF (a : Int) (i : Ins) (fs : Facts) : List Row := [true, false].flatMap (bwS a i fs)
def targF (i : Ins) (fs : Facts) : Option (List Int) := match factAt fs i.b with
  | .words ws => some (isort (ws.map fun w => wrapF (w + i.c)))
  | _ => none
def memF (m : Img) (a : Int) (i : Ins) (fs : Facts) : List Row :=
  if inS i.op ["sw", "sb"] = true then [(wrapF (a + 4), fs)] else [(wrapF (a + 4), setF fs i.a (loadedF m i.op (resF "add" (factAt fs i.b) (.words [wrapF i.c]))))]
def plOf (op : Str) : Str := (plainOf.lookup op).getD "add"
def aluF (i : Ins) (fs : Facts) : Fact :=
  if i.op = "lui" then .words [i.b * 2 ^ (14 : Int).toNat] else
  if inS i.op alu13 = true then resF i.op (factAt fs i.b) (factAt fs i.c) else resF (plOf i.op) (factAt fs i.b) (.words [wrapF i.c])
def jnS (m : List Row) (p : Row) : List Row := putT m p.1 (match valT m p.1 with | none => p.2 | some g => List.zipWith joinF g p.2)
def jnF (rs : List Row) : List Row := (isort ((rs.foldl jnS []).map (·.1))).map fun t => (t, (valT (rs.foldl jnS []) t).getD [])
theorem insD3 {i : Ins} (h : i.op ∈ sJ) : i.D = .tuple [.str i.op, .int i.a, .int i.b] := by
  have e : inS i.op s3 = false := inS_no.mpr fun z => by
    rcases List.mem_cons.mp h with e | e
    · rw [e] at z; exact absurd z (by decide)
    · rw [List.mem_singleton.mp e] at z; exact absurd z (by decide)
  unfold Ins.D
  rw [if_neg (by rw [e]; decide), if_pos (inS_iff.mpr h)]
theorem insD4 {i : Ins} (h : i.op ∉ s3) (h2 : i.op ∉ sJ) : i.D = .tuple [.str i.op, .int i.a, .int i.b, .int i.c] := by
  unfold Ins.D
  rw [if_neg (fun z => h (inS_iff.mp z)), if_neg (fun z => h2 (inS_iff.mp z))]
theorem of_list {l : List Str} {op : Str} (h : op ∈ l) (d : (l.all fun o => decide (o ∉ s3) && decide (o ∉ sJ)) = true) : op ∉ s3 ∧ op ∉ sJ := by
  have z := List.all_eq_true.mp d op h
  obtain ⟨a, b⟩ := Bool.and_eq_true_iff.mp z
  exact ⟨of_decide_eq_true a, of_decide_eq_true b⟩
abbrev br6 : List Str := ["beq", "bne", "blt", "bge", "bltu", "bgeu"]
abbrev mm5 : List Str := ["lw", "lb", "lbu", "sw", "sb"]
theorem pl_of : ∀ op ∈ imm8, ∃ j : Nat, plainOf[j]? = some (op, plOf op) ∧ plOf op ∈ alu13 := by
  have h : (imm8.all fun op => (List.range 8).any fun (j : Nat) => decide (plainOf[j]? = some (op, plOf op)) && decide (plOf op ∈ alu13)) = true := by decide +kernel
  intro op ho
  obtain ⟨j, _, z⟩ := List.any_eq_true.mp (List.all_eq_true.mp h op ho)
  obtain ⟨a, b⟩ := Bool.and_eq_true_iff.mp z
  exact ⟨j, of_decide_eq_true a, of_decide_eq_true b⟩
section
variable {Z : Zx} [W : W0 Z]
abbrev cBw : Ct := fun xs S R => ∃ (a : Int) (i : Ins) (fs : Facts), xs = [.d (.int a), .d i.D, .d (FD fs)] ∧ i.fit ∧ i.op ∈ br6 ∧ okT fs ∧ R (.d (rowsD (bwF a i fs))) S
instance ok_branch_ways : HasFn Z "branch_ways" ["address", "instruction", "facts"] 5 cBw := fn_intro sc_branch_ways nm_branch_ways (fun _ _ _ _ _ _ us hl => match us, hl with | [_, _, _], _ => rfl) (by tm_at "ctl") fun X B xs S R hc => by
  obtain ⟨a, i, fs, rfl, fi, ho, hfs, hR⟩ := hc
  have ⟨n1, n2⟩ := of_list ho (by decide)
  have ⟨b0, b1⟩ := fi.2.2.2.2.2.1 n1 n2
  have ⟨a0, a1⟩ := fi.2.1
  have ka := okT_at hfs a0 a1
  have kb := okT_at hfs b0 b1
  have hi := insD4 n1 n2
  refine sws_cons (sw_asg (EV.use (EV.is (ev_var rfl) (by rw [hi])) (gw_tup (gws_cons (gws_cons (gws_cons (gws_cons (gws_nil ?_))))))))
  refine sws_setV (ev_call (av_cons (by tm_at "ev") (av_cons (ev_ixT (by tm_at "ev") (by tm_at "ev") (okT_atI hfs a0 a1)) (av_cons (ev_ixT (by tm_at "ev") (by tm_at "ev") (okT_atI hfs b0 b1)) av_nil))) ⟨i.op, _, _, rfl, ka.2, kb.2, rfl, rfl⟩) ?_
  refine sws_newL (xs := []) av_nil (by decide) fun q hq => ?_
  refine sws_cons (sw_forT (D := PyData.bool) (ts := [true, false]) (iw_tup (ev_tup (by tm_at "av") rfl rfl))
    (fun r δ' S2 => ∃ (l : List Bool) (u v w : Option SV), [true, false] = l ++ r ∧ δ' = [some (.d (.int a)), some (.d i.D), some (.d (FD fs)), some (.d (.str i.op)), some (.d (.int i.a)), some (.d (.int i.b)), some (.d (.int i.c)), some (.d (optB (decF i.op (factAt fs i.a) (factAt fs i.b)))), some (.r q), u, v, w] ∧ S2 = supd S q (.lst (((l.flatMap (bwS a i fs)).map rowD).map SV.d)))
    ⟨[], none, none, none, rfl, rfl, rfl⟩ (fun _ _ _ _ => trivial) ?_ ?_)
  · rintro taken r δ' S2 ⟨l, u, v, w, e1, rfl, rfl⟩
    have hl : (l.flatMap (bwS a i fs)).length ≤ 2 := by
      have k : ∀ l : List Bool, (l.flatMap (bwS a i fs)).length ≤ l.length := by
        intro l
        induction l with
        | nil => exact Nat.le_refl _
        | cons t l ih =>
          rw [List.flatMap_cons, List.length_append, List.length_cons]
          have : (bwS a i fs t).length ≤ 1 := by
            unfold bwS
            split
            · split
              · exact Nat.zero_le _
              · exact Nat.le_refl _
            · exact Nat.zero_le _
          omega
      have k2 : l.length ≤ 2 := by
        have := congrArg List.length e1
        rw [List.length_append] at this
        simp only [List.length_cons, List.length_nil] at this
        omega
      exact Nat.le_trans (k l) k2
    have e2 : (l ++ [taken]).flatMap (bwS a i fs) = l.flatMap (bwS a i fs) ++ bwS a i fs taken := by rw [List.flatMap_append, List.flatMap_singleton]
    have nop : bwS a i fs taken = [] → l.flatMap (bwS a i fs) = (l ++ [taken]).flatMap (bwS a i fs) := fun e => by rw [e2, e, List.append_nil]
    refine ew_tg ?_
    have hbw : bwS a i fs taken = if (decide (decF i.op (factAt fs i.a) (factAt fs i.b) = none) || decide (decF i.op (factAt fs i.a) (factAt fs i.b) = some taken)) = true then (match refF i.op taken fs i.a i.b with | none => [] | some t => [(wrapF (if taken = true then a + 4 * i.c else a + 4), t)]) else [] := rfl
    generalize hd : decF i.op (factAt fs i.a) (factAt fs i.b) = dc at *
    refine' sws_cons (sw_if (x := decide (dc = none) || decide (dc = some taken)) ?ta (fun h => ?tb) fun h => ?tc)
    case ta =>
      cases dc with
      | none => exact TV.is (tv_w (wv_or (x := true) (y := false) (tv_cmp (cv_isN (x := PyData.none) (ev_var rfl))) fun h => absurd h (by decide))) rfl
      | some b => exact TV.is (tv_w (wv_or (tv_cmp (cv_isN (x := PyData.bool b) (ev_var rfl))) fun _ => wv_or1 (tv_cmp (cv_eqB (x := b) (ev_var rfl) (by tm_at "ev"))))) (by cases b <;> cases taken <;> rfl)
    case tc =>
      rw [if_neg (by rw [h]; decide)] at hbw
      exact sws_nil (sws_nil ⟨l ++ [taken], _, _, _, by rw [e1]; simp, rfl, by rw [← nop hbw]⟩)
    rw [if_pos h] at hbw
    refine sws_setV (ev_call (by tm_at "av") ⟨i.op, taken, fs, i.a, i.b, rfl, hfs, ⟨a0, a1⟩, ⟨b0, b1⟩, rfl, rfl⟩) ?_
    cases hr : refF i.op taken fs i.a i.b with
    | none =>
      rw [hr] at hbw
      refine sws_ifN (tv_cmp (cv_notN (x := PyData.none) (ev_var rfl))) rfl ?_
      exact sws_nil (sws_nil ⟨l ++ [taken], _, _, _, by rw [e1]; simp, rfl, by rw [← nop hbw]⟩)
    | some t =>
      rw [hr] at hbw
      dsimp only at hbw
      refine sws_ifT (tv_cmp (cv_notN (x := FD t) (ev_var rfl))) rfl ?_
      tm_at "set"
      refine sws_cons (SW.mono (E := { nx := fun δ' S' => δ' = [some (.d (.int a)), some (.d i.D), some (.d (FD fs)), some (.d (.str i.op)), some (.d (.int i.a)), some (.d (.int i.b)), some (.d (.int i.c)), some (.d (optB dc)), some (.r q), some (.d (.bool taken)), some (.d (FD t)), some (.d (.int (if taken = true then a + 4 * i.c else a + 4)))] ∧ S' = supd S q (.lst (((l.flatMap (bwS a i fs)).map rowD).map SV.d)), rt := R, bk := fun _ _ => False, ct := fun _ _ => False }) ?st ?nx (fun _ _ h => h) (fun _ _ h => h.elim) fun _ _ h => h.elim)
      case st =>
        refine sw_if (x := taken) (tv_val (by tm_at "ev")) (fun h => ?_) fun h => sws_nil ⟨by rw [if_neg (by rw [h]; decide)]; rfl, rfl⟩
        rw [if_pos h]
        exact sws_setV (ev_add (by tm_at "ev") (ev_mul (by tm_at "ev") (by tm_at "ev") (.inl ⟨by decide, by decide⟩))) (sws_nil ⟨rfl, rfl⟩)
      rintro δ' S' ⟨rfl, rfl⟩
      refine sws_app (by tm_at "ev") supd_same (ev_tup (by tm_at "av") rfl rfl) ?_ (sws_nil (sws_nil (sws_nil ⟨l ++ [taken], some (.d (.bool taken)), some (.d (FD t)), some (.d (.int (if taken = true then a + 4 * i.c else a + 4))), by rw [e1]; simp, rfl, ?_⟩)))
      · rw [List.length_map, List.length_map]; unfold sizeLine; omega
      · rw [supd_supd, e2, hbw]
        refine congrArg (fun z => supd S q (.lst z)) ?_
        simp only [List.map_append, List.map_cons, List.map_nil]
        rfl
  · rintro δ' S2 ⟨l, u, v, w, e1, rfl, rfl⟩
    rw [List.append_nil] at e1
    exact sws_frz (i := 8) (S' := S) rfl supd_same ((SLe.refl S).new hq) hq (sws_one (sw_retE (ev_var rfl) (by rw [← e1]; rfl) hR))
end
end K23
/-! ways: targets, memory, alu, joined -/
namespace K23
open PySem PySem.Spec PyProof.Rows L2
theorem pairD_map {α β : Type} {f : α → PyData} {g : β → PyData} : ∀ (xs : List α) (ys : List β), pairD (xs.map f) (ys.map g) = (List.zip xs ys).map fun t => .tuple [f t.1, g t.2]
  | [], ys => by cases ys <;> rfl
  | x :: xs, [] => rfl
  | x :: xs, y :: ys => congrArg (_ :: ·) (pairD_map xs ys)
theorem zip_join : ∀ (xs ys : Facts), (List.zip xs ys).map (fun t => (joinF t.1 t.2).D) = (List.zipWith joinF xs ys).map Fact.D
  | [], ys => by cases ys <;> rfl
  | x :: xs, [] => rfl
  | x :: xs, y :: ys => congrArg (_ :: ·) (zip_join xs ys)
theorem zip_ok : ∀ {xs ys : Facts}, (∀ f ∈ xs, f.ok) → (∀ f ∈ ys, f.ok) → ∀ f ∈ List.zipWith joinF xs ys, f.ok
  | [], ys, _, _, f, h => by cases ys <;> exact absurd h List.not_mem_nil
  | x :: xs, [], _, _, f, h => absurd h List.not_mem_nil
  | x :: xs, y :: ys, h1, h2, f, h => by
    rcases List.mem_cons.mp h with e | e
    · rw [e]; exact joinF_ok (h1 x List.mem_cons_self) (h2 y List.mem_cons_self)
    · exact zip_ok (fun g hg => h1 g (List.mem_cons_of_mem _ hg)) (fun g hg => h2 g (List.mem_cons_of_mem _ hg)) f e
theorem join_okT {fs gs : Facts} (h1 : okT fs) (h2 : okT gs) : okT (List.zipWith joinF fs gs) := ⟨by rw [List.length_zipWith, h1.1, h2.1]; rfl, zip_ok h1.2 h2.2⟩
theorem jnS_ok {m : List Row} {p : Row} (hm : ∀ t g, valT m t = some g → okT g) (hp : okT p.2) : ∀ t g, valT (jnS m p) t = some g → okT g := by
  intro t g h
  unfold jnS at h
  rw [valT_put] at h
  split at h
  · cases h
    split
    · exact hp
    · rename_i g e
      exact join_okT (hm _ _ e) hp
  · exact hm t g h
theorem jnS_len (m : List Row) (p : Row) : (jnS m p).length ≤ m.length + 1 := by
  unfold jnS
  rw [put_len]
  split <;> omega
theorem jn_fold : ∀ (rs : List Row) (m : List Row), (∀ p ∈ rs, okT p.2) → (∀ t g, valT m t = some g → okT g) → (∀ t g, valT (rs.foldl jnS m) t = some g → okT g) ∧ (rs.foldl jnS m).length ≤ m.length + rs.length
  | [], m, _, hm => ⟨hm, Nat.le_refl _⟩
  | p :: rs, m, h, hm => by
    rw [List.foldl_cons]
    have k := jn_fold rs (jnS m p) (fun q hq => h q (List.mem_cons_of_mem _ hq)) (jnS_ok hm (h p List.mem_cons_self))
    have k2 := jnS_len m p
    rw [List.length_cons]
    exact ⟨k.1, by have := k.2; omega⟩
theorem insD_hd (i : Ins) : ∃ ds, i.D = .tuple (.str i.op :: .int i.a :: ds) := by
  unfold Ins.D
  split
  · exact ⟨_, rfl⟩
  · split <;> exact ⟨_, rfl⟩
section
variable {Z : Zx} [W : W0 Z]
abbrev cTarg : Ct := fun xs S R => ∃ (m : Img) (a : Int) (fs : Facts) (i : Ins), xs = [.d m.D, .d (.int a), .d (FD fs)] ∧ m.ok ∧ 0 ≤ findS m a 4 ∧ decodeF (wordF m a) = some i ∧ i.op = "jalr" ∧ okT fs ∧ R (.d (match targF i fs with | none => .none | some ts => .list (ts.map PyData.int))) S
instance ok_allowed_targets : HasFn Z "allowed_targets" ["image", "address", "facts"] 5 cTarg := fn_intro sc_allowed_targets nm_allowed_targets (fun _ _ _ _ _ _ us hl => match us, hl with | [_, _, _], _ => rfl) (by tm_at "ctl") fun X B xs S R hc => by
  obtain ⟨m, a, fs, i, rfl, hm, h0, hi, ho, hfs, hR⟩ := hc
  have fi := decode_fit hi
  have n1 : i.op ∉ s3 := by rw [ho]; decide
  have n2 : i.op ∉ sJ := by rw [ho]; decide
  have ⟨b0, b1⟩ := fi.2.2.2.2.2.1 n1 n2
  have hD := insD4 n1 n2
  refine sws_setV (v := .d (.tuple [.str i.op, .int i.a, .int i.b, .int i.c])) (EV.is (ev_call (by tm_at "av") ⟨m, a, rfl, hm, h0, rfl, rfl⟩) (by rw [hi]; show SV.d i.D = _; rw [hD])) ?_
  refine sws_setV (ev_ixT (by tm_at "ev") (by tm_at "ev") (okT_atI hfs b0 b1)) ?_
  have kb := (okT_at hfs b0 b1).2
  unfold targF at hR
  generalize factAt fs i.b = f at *
  cases f with
  | words ws =>
    refine sws_ifN (x := !true) (tv_not (tv_val (ev_call (by tm_at "av") ⟨.words ws, rfl, rfl, rfl⟩))) rfl ?_
    refine sws_one (sw_retE (ev_sortI (ns := ws.map fun w => wrapF (w + i.c)) (EV.is (ev_lcM (D := PyData.int) (F := fun w => .int (wrapF (w + i.c))) [("w", 5)] [false, false, false, true, false, true] [false, false, false, false, false, true] ["wrapped"] (by decide +kernel) (by decide +kernel) (by decide) (iw_tup (by tm_at "ev")) (len_ws kb.1) fun X1 _ t ht => ev_call (by tm_at "av") ⟨_, rfl, rfl, rfl⟩) (by rw [List.map_map]; rfl))) rfl hR)
  | top =>
    refine sws_ifT (x := !false) (tv_not (tv_val (ev_call (by tm_at "av") ⟨.top, rfl, rfl, rfl⟩))) rfl ?_
    tm_at "ret"
  | range lo hi =>
    refine sws_ifT (x := !false) (tv_not (tv_val (ev_call (by tm_at "av") ⟨.range lo hi, rfl, rfl, rfl⟩))) rfl ?_
    tm_at "ret"
abbrev cMemW : Ct := fun xs S R => ∃ (m : Img) (a : Int) (i : Ins) (fs : Facts), xs = [.d m.D, .d (.int a), .d i.D, .d (FD fs)] ∧ m.ok ∧ i.fit ∧ i.op ∈ mm5 ∧ okT fs ∧ R (.d (rowsD (memF m a i fs))) S
instance ok_memory_ways : HasFn Z "memory_ways" ["image", "address", "instruction", "facts"] 6 cMemW := fn_intro sc_memory_ways nm_memory_ways (fun _ _ _ _ _ _ us hl => match us, hl with | [_, _, _, _], _ => rfl) (by tm_at "ctl") fun X B xs S R hc => by
  obtain ⟨m, a, i, fs, rfl, hm, fi, ho, hfs, hR⟩ := hc
  have ⟨n1, n2⟩ := of_list ho (by decide)
  have ⟨b0, b1⟩ := fi.2.2.2.2.2.1 n1 n2
  have ⟨a0, a1⟩ := fi.2.1
  have kb := (okT_at hfs b0 b1).2
  have hi := insD4 n1 n2
  refine sws_cons (sw_asg (EV.use (EV.is (ev_var rfl) (by rw [hi])) (gw_tup (gws_cons (gws_cons (gws_cons (gws_cons (gws_nil ?_))))))))
  unfold memF at hR
  refine' sws_if2 (x := inS i.op ["sw", "sb"]) ?ta (fun h => ?tb) fun h => ?tc
  case ta => exact TV.is (by tm_at "tv") rfl
  case tb =>
    rw [if_pos h] at hR
    exact sws_one (sw_retE (ev_lst (ds := [rowD (wrapF (a + 4), fs)]) (av_cons (ev_tup (by tm_at "av") rfl rfl) av_nil) rfl rfl) rfl hR)
  rw [if_neg (by rw [h]; decide)] at hR
  refine sws_setV (ev_call (av_cons ev_str (av_cons (ev_ixT (by tm_at "ev") (by tm_at "ev") (okT_atI hfs b0 b1)) (av_cons (ev_call (av_cons (ev_call (by tm_at "av") ⟨_, rfl, rfl, rfl⟩) av_nil) ⟨_, rfl, rfl, rfl⟩) av_nil))) ⟨"add", _, .words [wrapF i.c], rfl, by decide, kb, one_ok (wrap_ok _), rfl, rfl⟩) ?_
  have kr := resF_ok (op := "add") kb (one_ok (wrap_ok i.c))
  refine sws_one (sw_retE (ev_lst (ds := [rowD (wrapF (a + 4), setF fs i.a (loadedF m i.op (resF "add" (factAt fs i.b) (.words [wrapF i.c]))))]) (av_cons (ev_tup (ds := [.int (wrapF (a + 4)), FD (setF fs i.a (loadedF m i.op (resF "add" (factAt fs i.b) (.words [wrapF i.c]))))]) (av_cons (by tm_at "ev") (av_cons (ev_call (av_cons (by tm_at "ev") (av_cons (by tm_at "ev") (av_cons (ev_call (by tm_at "av") ⟨m, i.op, _, rfl, hm, kr.1, rfl, rfl⟩) av_nil))) ⟨fs, i.a, _, rfl, hfs.1, ⟨a0, a1⟩, rfl, rfl⟩) av_nil)) rfl rfl) av_nil) rfl rfl) rfl hR)
abbrev cAlu : Ct := fun xs S R => ∃ (i : Ins) (fs : Facts), xs = [.d i.D, .d (FD fs)] ∧ i.fit ∧ (i.op = "lui" ∨ i.op ∈ alu13 ∨ i.op ∈ imm8) ∧ okT fs ∧ R (.d (aluF i fs).D) S
instance ok_alu_fact : HasFn Z "alu_fact" ["instruction", "facts"] 6 cAlu := fn_intro sc_alu_fact nm_alu_fact (fun _ _ _ _ _ _ us hl => match us, hl with | [_, _], _ => rfl) (by tm_at "ctl") fun X B xs S R hc => by
  obtain ⟨i, fs, rfl, fi, ho, hfs, hR⟩ := hc
  obtain ⟨ds, hds⟩ := insD_hd i
  unfold aluF at hR
  refine sws_setV (v := .d (.str i.op)) (ev_ixT (ds := .str i.op :: .int i.a :: ds) (EV.is (ev_var rfl) (by rw [hds])) (by tm_at "ev") atI_head) ?_
  refine' sws_if2 (x := decide (i.op = "lui")) ?ta (fun h => ?tb) fun h => ?tc
  case ta => tm_at "tv"
  case tb =>
    have h := of_decide_eq_true h
    rw [if_pos h] at hR
    have hD := insD3 (i := i) (by rw [h]; decide)
    have bb := fi.2.2.1
    exact sws_one (sw_retE (ev_call (av_cons (ev_shl (ev_ixT (ds := [.str i.op, .int i.a, .int i.b]) (EV.is (ev_var rfl) (by rw [hD])) (by tm_at "ev") rfl) (by tm_at "ev") ⟨by decide, by decide, by omega⟩) av_nil) ⟨_, rfl, rfl, rfl⟩) rfl hR)
  have h := of_decide_eq_false h
  rw [if_neg h] at hR
  have ho : i.op ∈ alu13 ∨ i.op ∈ imm8 := ho.resolve_left h
  have n12 : i.op ∉ s3 ∧ i.op ∉ sJ := ho.elim (fun z => of_list z (by decide)) fun z => of_list z (by decide)
  have hD := insD4 n12.1 n12.2
  have ⟨b0, b1⟩ := fi.2.2.2.2.2.1 n12.1 n12.2
  have kb := (okT_at hfs b0 b1).2
  refine' sws_if2 (x := inS i.op alu13) ?ua (fun h2 => ?ub) fun h2 => ?uc
  case ua => exact TV.is (by tm_at "tv") rfl
  case ub =>
    rw [if_pos h2] at hR
    have h2 := inS_iff.mp h2
    have ⟨c0, c1⟩ := fi.2.2.2.2.2.2 h2
    have kc := (okT_at hfs c0 c1).2
    exact sws_one (sw_retE (ev_call (av_cons (by tm_at "ev") (av_cons (ev_ixT (by tm_at "ev") (ev_ixT (ds := [.str i.op, .int i.a, .int i.b, .int i.c]) (EV.is (ev_var rfl) (by rw [hD])) (by tm_at "ev") rfl) (okT_atI hfs b0 b1)) (av_cons (ev_ixT (by tm_at "ev") (ev_ixT (ds := [.str i.op, .int i.a, .int i.b, .int i.c]) (EV.is (ev_var rfl) (by rw [hD])) (by tm_at "ev") rfl) (okT_atI hfs c0 c1)) av_nil))) ⟨i.op, _, _, rfl, h2, kb, kc, rfl, rfl⟩) rfl hR)
  rw [if_neg (by rw [h2]; decide)] at hR
  obtain ⟨j, hj, hp⟩ := pl_of i.op (ho.resolve_left (inS_no.mp h2))
  exact sws_one (sw_retE (ev_call (av_cons (ev_plainOf j hj (by tm_at "ev")) (av_cons (ev_ixT (by tm_at "ev") (ev_ixT (ds := [.str i.op, .int i.a, .int i.b, .int i.c]) (EV.is (ev_var rfl) (by rw [hD])) (by tm_at "ev") rfl) (okT_atI hfs b0 b1)) (av_cons (ev_call (av_cons (ev_call (av_cons (ev_ixT (ds := [.str i.op, .int i.a, .int i.b, .int i.c]) (EV.is (ev_var rfl) (by rw [hD])) (by tm_at "ev") rfl) av_nil) ⟨_, rfl, rfl, rfl⟩) av_nil) ⟨_, rfl, rfl, rfl⟩) av_nil))) ⟨plOf i.op, _, .words [wrapF i.c], rfl, hp, kb, one_ok (wrap_ok _), rfl, rfl⟩) rfl hR)
end
end K23
/-! ways: joined, ways -/
namespace K23
open PySem PySem.Spec PyProof.Rows L2
def waysF (m : Img) (a : Int) (fs : Facts) : Option (List Row) := match decodeF (wordF m a) with
  | none => some []
  | some i =>
    if i.op = "exit" then some [] else
    if inS i.op br6 = true then some (jnF (bwF a i fs)) else
    if (inS i.op ["lw", "lb", "lbu"] || inS i.op ["sw", "sb"]) = true then some (memF m a i fs) else
    if i.op = "jal" then some [(wrapF (a + 4 * i.b), setF fs i.a (.words [wrapF (a + 4)]))] else
    if i.op = "jalr" then (match targF i fs with | none => none | some ts => some (ts.map fun t => (t, setF fs i.a (.words [wrapF (a + 4)])))) else
    if i.op = "put" then some [(wrapF (a + 4), fs)] else
    if i.op = "get" then some [(wrapF (a + 4), setF fs i.a .top)] else
    some [(wrapF (a + 4), setF fs i.a (aluF i fs))]
def optR : Option (List Row) → PyData
  | none => .none
  | some rs => rowsD rs
theorem ops_rest : ∀ op ∈ ops38, op ≠ "exit" → op ∉ br6 → op ∉ mm5 → op ≠ "jal" → op ≠ "jalr" → op ≠ "put" → op ≠ "get" → op = "lui" ∨ op ∈ alu13 ∨ op ∈ imm8 := by
  have h : (ops38.all fun op => decide (op = "exit") || decide (op ∈ br6) || decide (op ∈ mm5) || decide (op = "jal") || decide (op = "jalr") || decide (op = "put") || decide (op = "get") || decide (op = "lui") || decide (op ∈ alu13) || decide (op ∈ imm8)) = true := by decide +kernel
  intro op ho h1 h2 h3 h4 h5 h6 h7
  have z := List.all_eq_true.mp h op ho
  simp only [Bool.or_eq_true, decide_eq_true_eq] at z
  rcases z with ((((((((z | z) | z) | z) | z) | z) | z) | z) | z) | z
  · exact absurd z h1
  · exact absurd z h2
  · exact absurd z h3
  · exact absurd z h4
  · exact absurd z h5
  · exact absurd z h6
  · exact absurd z h7
  · exact .inl z
  · exact .inr (.inl z)
  · exact .inr (.inr z)
theorem refF_ok {op : Str} {taken : Bool} {fs t : Facts} {ra rb : Int} (hfs : okT fs) (ha : 0 ≤ ra ∧ ra ≤ 15) (hb : 0 ≤ rb ∧ rb ≤ 15) (h : refF op taken fs ra rb = some t) : okT t := by
  have ka := okT_at hfs ha.1 ha.2
  have kb := okT_at hfs hb.1 hb.2
  have kk := refAB_okE (op := op) (taken := taken) ka.2.1 kb.2.1
  unfold refF at h
  split at h
  · cases h
  · rename_i hn
    cases h
    have h1 : emptyB (refAB op taken (factAt fs ra) (factAt fs rb)).1 = false := by
      cases e : emptyB (refAB op taken (factAt fs ra) (factAt fs rb)).1 with
      | false => rfl
      | true => rw [e] at hn; exact absurd rfl hn
    have h2 : emptyB (refAB op taken (factAt fs ra) (factAt fs rb)).2 = false := by
      cases e : emptyB (refAB op taken (factAt fs ra) (factAt fs rb)).2 with
      | false => rfl
      | true => rw [e, Bool.or_true] at hn; exact absurd rfl hn
    exact setF_ok (setF_ok hfs (not_empty_ok kk.1 h1)) (not_empty_ok kk.2 h2)
theorem bwF_ok {a : Int} {i : Ins} {fs : Facts} (hfs : okT fs) (ha : 0 ≤ i.a ∧ i.a ≤ 15) (hb : 0 ≤ i.b ∧ i.b ≤ 15) : ∀ p ∈ bwF a i fs, okT p.2 := by
  intro p hp
  obtain ⟨t, _, h⟩ := List.mem_flatMap.mp hp
  unfold bwS at h
  split at h
  · split at h
    · exact absurd h List.not_mem_nil
    · rename_i e
      rw [List.mem_singleton.mp h]
      exact refF_ok hfs ha hb e
  · exact absurd h List.not_mem_nil
theorem bwF_len {a : Int} {i : Ins} {fs : Facts} : (bwF a i fs).length ≤ 2 := by
  have k : ∀ t, (bwS a i fs t).length ≤ 1 := by
    intro t
    unfold bwS
    split
    · split
      · exact Nat.zero_le _
      · exact Nat.le_refl _
    · exact Nat.zero_le _
  have h1 := k true
  have h2 := k false
  unfold bwF
  rw [List.flatMap_cons, List.flatMap_cons, List.flatMap_nil, List.length_append, List.append_nil]
  omega
section
variable {Z : Zx} [W : W0 Z]
abbrev fdS : Facts → SV := fun g => .d (FD g)
abbrev cJoined : Ct := fun xs S R => ∃ rs : List Row, xs = [.d (rowsD rs)] ∧ rs.length ≤ 1000 ∧ (∀ p ∈ rs, okT p.2) ∧ R (.d (rowsD (jnF rs))) S
instance ok_joined : HasFn Z "joined" ["rows"] 4 cJoined := fn_intro sc_joined nm_joined (fun _ _ _ _ _ _ us hl => match us, hl with | [_], _ => rfl) (by tm_at "ctl") fun X B xs S R hc => by
  obtain ⟨rs, rfl, hn, hok, hR⟩ := hc
  refine sws_newD fun q hq => ?_
  refine sws_cons (sw_forT (D := rowD) (ts := rs) (iw_list (by tm_at "ev"))
    (fun r δ' S2 => ∃ (l : List Row) (u v : Option SV), rs = l ++ r ∧ δ' = [some (.d (rowsD rs)), some (.r q), u, v, none, none] ∧ S2 = supd S q (.dct (kvT fdS (l.foldl jnS []))))
    ⟨[], none, none, rfl, rfl, rfl⟩ (fun _ _ _ _ => trivial) ?_ ?_)
  · rintro ⟨t, fs⟩ r δ' S2 ⟨l, u, v, e1, rfl, rfl⟩
    have hp : okT fs := hok (t, fs) (by rw [e1]; simp)
    have k := jn_fold l [] (fun p hp => hok p (by rw [e1]; simp [hp])) (fun t g h => by cases h)
    have e2 : (l ++ [(t, fs)]).foldl jnS [] = jnS (l.foldl jnS []) (t, fs) := by rw [List.foldl_append]; rfl
    have hl : l.length ≤ 1000 := by
      have := congrArg List.length e1
      rw [List.length_append] at this
      omega
    generalize hm : l.foldl jnS [] = mm at *
    refine gw_tup (gws_cons (gws_cons (gws_nil ?_)))
    have hvs := val_kv (D := fdS) (m := mm) (k := t)
    refine sws_cons (SW.mono (E := { nx := fun δ' S' => δ' = [some (.d (rowsD rs)), some (.r q), some (.d (.int t)), some (.d (FD (match valT mm t with | none => fs | some g => List.zipWith joinF g fs))), none, none] ∧ S' = supd S q (.dct (kvT fdS mm)), rt := R, bk := fun _ _ => False, ct := fun _ _ => False }) ?st ?nx (fun _ _ h => h) (fun _ _ h => h.elim) fun _ _ h => h.elim)
    case nx =>
      rintro δ' S' ⟨rfl, rfl⟩
      refine sws_dputV (kk := ki t) (by tm_at "ev") (by tm_at "ev") (by tm_at "ev") supd_same ?_ (sws_nil ⟨l ++ [(t, fs)], _, _, by rw [e1]; simp, rfl, ?_⟩)
      · have := k.2
        unfold kvT
        rw [List.length_map]
        simp only [List.length_nil] at this
        unfold sizeLine
        omega
      · rw [supd_supd, e2]
        unfold jnS
        exact congrArg (fun z => supd S q (.dct z)) (put_kv (D := fdS))
    case st =>
      cases hv : valT mm t with
      | none =>
        rw [hv] at hvs
        refine sw_if (x := false) (TV.is (tv_cmp (cv_din (kk := ki t) (by tm_at "ev") (by tm_at "ev") supd_same)) (by rw [hvs]; rfl)) (fun h => by cases h) fun _ => sws_nil ⟨rfl, rfl⟩
      | some g =>
        rw [hv] at hvs
        have hg := k.1 t g hv
        refine sw_if (x := true) (TV.is (tv_cmp (cv_din (kk := ki t) (by tm_at "ev") (by tm_at "ev") supd_same)) (by rw [hvs]; rfl)) (fun _ => ?_) fun h => by cases h
        refine sws_setV (v := .d (FD (List.zipWith joinF g fs))) (ev_tupleL (EV.is (ev_lc2 (ts := List.zip g fs) (D1 := fun t => t.1.D) (D2 := fun t => t.2.D) (F := fun t => (joinF t.1 t.2).D) [("a", 4), ("b", 5)] [false, false, false, false, true, true] [false, false, false, false, true, true] ["join_facts"] (by decide +kernel) (by decide +kernel) (by decide) (by decide) ?_ ?_ fun X1 _ z hz => ?_) (by rw [zip_join]))) (sws_nil ⟨rfl, rfl⟩)
        · rw [← pairD_map]
          exact iw_zip (xs := g.map Fact.D) (ys := fs.map Fact.D) (ev_dget (kk := ki t) (by tm_at "ev") (by tm_at "ev") supd_same hvs) (by tm_at "ev")
        · rw [List.length_zip, hg.1, hp.1]; decide
        · obtain ⟨z1, z2⟩ := z
          have h12 := List.of_mem_zip hz
          exact ev_call (by tm_at "av") ⟨z1, z2, rfl, hg.2 z1 h12.1, hp.2 z2 h12.2, rfl, rfl⟩
  · rintro δ' S2 ⟨l, u, v, e1, rfl, rfl⟩
    rw [List.append_nil] at e1
    subst e1
    have k := jn_fold rs [] hok (fun t g h => by cases h)
    unfold jnF at hR
    generalize hm : rs.foldl jnS [] = mm at *
    refine sws_one (sw_retV (v := .d (rowsD ((isort (mm.map (·.1))).map fun t => (t, (valT mm t).getD [])))) (EV.is (ev_lcM (D := PyData.int) (ts := isort (mm.map (·.1))) (F := fun t => rowD (t, (valT mm t).getD [])) [("target", 2)] [false, true, true, false, false, false] [false, false, true, false, false, false] [] (by decide +kernel) (by decide +kernel) (by decide) (iw_list (ev_sortI (ew_listD ((ev_var rfl).use ⟨q, _, rfl, supd_same, ?_, rfl⟩)))) ?_ fun X1 _ t ht => ?_) (by unfold rowsD; rw [List.map_map]; rfl)) ((SLe.refl S).new hq) hR)
    · unfold kvT
      rw [List.map_map, List.map_map]; rfl
    · rw [isort_perm.length_eq, List.length_map]
      have := k.2
      simp only [List.length_nil] at this
      unfold sizeLine
      omega
    · have hh : hasT mm t = true := has_mem.mpr (isort_perm.mem_iff.mp ht)
      obtain ⟨g, hg⟩ := Option.isSome_iff_exists.mp hh
      have hvs := val_kv (D := fdS) (m := mm) (k := t)
      rw [hg] at hvs
      refine EV.is (ev_tup (ds := [.int t, FD g]) (av_cons (by tm_at "ev") (av_cons (ev_dget (kk := ki t) (by tm_at "ev") (by tm_at "ev") supd_same hvs) av_nil)) rfl rfl) ?_
      unfold rowD
      rw [hg]; rfl
abbrev cWays : Ct := fun xs S R => ∃ (m : Img) (a : Int) (fs : Facts), xs = [.d m.D, .d (.int a), .d (FD fs)] ∧ m.ok ∧ 0 ≤ findS m a 4 ∧ okT fs ∧ R (.d (optR (waysF m a fs))) S
instance ok_ways : HasFn Z "ways" ["image", "address", "facts"] 7 cWays := fn_intro sc_ways nm_ways (fun _ _ _ _ _ _ us hl => match us, hl with | [_, _, _], _ => rfl) (by tm_at "ctl") fun X B xs S R hc => by
  obtain ⟨m, a, fs, rfl, hm, h0, hfs, hR⟩ := hc
  refine sws_setV (ev_call (by tm_at "av") ⟨m, a, rfl, hm, h0, rfl, rfl⟩) ?_
  tm_at "set"
  unfold waysF at hR
  cases hi : decodeF (wordF m a) with
  | none =>
    rw [hi] at hR
    refine sws_ifT (x := true || false) (tv_w (wv_or (y := false) (tv_cmp (cv_isN (x := PyData.none) (ev_var rfl))) fun h => absurd h (by decide))) rfl ?_
    exact sws_one (sw_retE (ev_lst av_nil rfl rfl) rfl hR)
  | some i =>
    rw [hi] at hR
    dsimp only at hR
    have fi := decode_fit hi
    obtain ⟨ds, hds⟩ := insD_hd i
    have i0 : ∀ {X : Cx} {e b : Expr} {δ : Dl} {S : Sto} {pos : Pos}, EV X e δ S (.d i.D) → EV X b δ S (.d (.int 0)) → PlainIx b → EV X (.Subscript e b pos) δ S (.d (.str i.op)) := fun h hb hp => ev_ixT (ds := .str i.op :: .int i.a :: ds) (EV.is h (by rw [hds])) hb atI_head hp
    have i1 : ∀ {X : Cx} {e b : Expr} {δ : Dl} {S : Sto} {pos : Pos}, EV X e δ S (.d i.D) → EV X b δ S (.d (.int 1)) → PlainIx b → EV X (.Subscript e b pos) δ S (.d (.int i.a)) := fun h hb hp => ev_ixT (ds := .str i.op :: .int i.a :: ds) (EV.is h (by rw [hds])) hb (atIp (by decide) rfl) hp
    have ⟨a0, a1⟩ := fi.2.1
    refine' sws_if2 (x := false || decide (i.op = "exit")) ?ta (fun h => ?tb) fun h => ?tc
    case ta => exact tv_w (wv_or (tv_cmp (cv_isN (x := .tuple (.str i.op :: .int i.a :: ds)) (EV.is (ev_var rfl) (by show SV.d i.D = _; rw [hds])))) fun _ => wv_or1 (tv_cmp (cv_eqS (i0 (ev_var rfl) (by tm_at "ev") (fun _ _ => rfl)) (by tm_at "ev"))))
    case tb =>
      rw [if_pos (of_decide_eq_true (by simpa using h))] at hR
      exact sws_one (sw_retE (ev_lst av_nil rfl rfl) rfl hR)
    have q1 : i.op ≠ "exit" := of_decide_eq_false (by simpa using h)
    rw [if_neg q1] at hR
    refine sws_setV (i0 (ev_var rfl) (by tm_at "ev") (fun _ _ => rfl)) ?_
    refine' sws_if2 (x := inS i.op br6) ?ua (fun h2 => ?ub) fun h2 => ?uc
    case ua => exact TV.is (by tm_at "tv") rfl
    case ub =>
      rw [if_pos h2] at hR
      have ho := inS_iff.mp h2
      have ⟨n1, n2⟩ := of_list ho (by decide)
      have bb := fi.2.2.2.2.2.1 n1 n2
      exact sws_one (sw_retE (ev_call (av_cons (ev_call (av_cons (by tm_at "ev") (av_cons (ev_var rfl) (av_cons (by tm_at "ev") av_nil))) ⟨a, i, fs, rfl, fi, ho, hfs, rfl, rfl⟩) av_nil) ⟨_, rfl, Nat.le_trans bwF_len (by decide), bwF_ok hfs ⟨a0, a1⟩ bb, rfl, rfl⟩) rfl hR)
    rw [if_neg (by rw [h2]; decide)] at hR
    refine' sws_if2 (x := inS i.op ["lw", "lb", "lbu"] || inS i.op ["sw", "sb"]) ?va (fun h3 => ?vb) fun h3 => ?vc
    case va => exact TV.is (by tm_at "tv") rfl
    case vb =>
      rw [if_pos h3] at hR
      have ho : i.op ∈ mm5 := by
        rcases Bool.or_eq_true_iff.mp h3 with z | z
        · exact List.mem_append_left (["sw", "sb"] : List Str) (inS_iff.mp z)
        · exact List.mem_append_right (["lw", "lb", "lbu"] : List Str) (inS_iff.mp z)
      exact sws_one (sw_retE (ev_call (av_cons (by tm_at "ev") (av_cons (by tm_at "ev") (av_cons (ev_var rfl) (av_cons (by tm_at "ev") av_nil)))) ⟨m, a, i, fs, rfl, hm, fi, ho, hfs, rfl, rfl⟩) rfl hR)
    rw [if_neg (by rw [h3]; decide)] at hR
    have q3 : i.op ∉ mm5 := fun z => by
      have z : i.op ∈ (["lw", "lb", "lbu"] : List Str) ++ (["sw", "sb"] : List Str) := z
      rcases List.mem_append.mp z with z | z
      · rw [inS_iff.mpr z] at h3; cases h3
      · rw [inS_iff.mpr z, Bool.or_true] at h3; cases h3
    refine' sws_if2 (x := decide (i.op = "jal")) ?wa (fun h4 => ?wb) fun h4 => ?wc
    case wa => tm_at "tv"
    case wb =>
      have h4 := of_decide_eq_true h4
      rw [if_pos h4] at hR
      have hD := insD3 (i := i) (by rw [h4]; decide)
      exact sws_one (sw_retE (ev_lst (ds := [rowD (wrapF (a + 4 * i.b), setF fs i.a (.words [wrapF (a + 4)]))]) (av_cons (ev_tup (ds := [.int (wrapF (a + 4 * i.b)), FD (setF fs i.a (.words [wrapF (a + 4)]))]) (av_cons (ev_call (av_cons (ev_add (by tm_at "ev") (ev_mul (by tm_at "ev") (ev_ixT (ds := [.str i.op, .int i.a, .int i.b]) (EV.is (ev_var rfl) (by rw [← hD]; rfl)) (by tm_at "ev") rfl) (.inl ⟨by decide, by decide⟩))) av_nil) ⟨_, rfl, rfl, rfl⟩) (av_cons (ev_call (av_cons (by tm_at "ev") (av_cons (i1 (ev_var rfl) (by tm_at "ev") (fun _ _ => rfl)) (av_cons (ev_call (by tm_at "av") ⟨_, rfl, rfl, rfl⟩) av_nil))) ⟨fs, i.a, _, rfl, hfs.1, ⟨a0, a1⟩, rfl, rfl⟩) av_nil)) rfl rfl) av_nil) rfl rfl) rfl hR)
    have q4 := of_decide_eq_false h4
    rw [if_neg q4] at hR
    refine' sws_if2 (x := decide (i.op = "jalr")) ?xa (fun h5 => ?xb) fun h5 => ?xc
    case xa => tm_at "tv"
    case xb =>
      have h5 := of_decide_eq_true h5
      rw [if_pos h5] at hR
      refine sws_setV (ev_call (by tm_at "av") ⟨m, a, fs, i, rfl, hm, h0, hi, h5, hfs, rfl, rfl⟩) ?_
      have n1 : i.op ∉ s3 := by rw [h5]; decide
      have n2 : i.op ∉ sJ := by rw [h5]; decide
      have ⟨b0, b1⟩ := fi.2.2.2.2.2.1 n1 n2
      have kb := (okT_at hfs b0 b1).2
      cases ht : targF i fs with
      | none =>
        rw [ht] at hR
        refine sws_ifT (tv_cmp (cv_isN (x := PyData.none) (ev_var rfl))) rfl ?_
        tm_at "ret"
      | some ts =>
        rw [ht] at hR
        have hl : ts.length < sizeLine := by
          unfold targF at ht
          generalize factAt fs i.b = f at *
          cases f with
          | words ws =>
            cases ht
            rw [isort_perm.length_eq, List.length_map]
            exact len_ws kb.1
          | top => cases ht
          | range lo hi => cases ht
        refine sws_ifN (tv_cmp (cv_isN (x := PyData.list (ts.map PyData.int)) (ev_var rfl))) rfl ?_
        refine sws_setV (v := .d (FD (setF fs i.a (.words [wrapF (a + 4)])))) (ev_call (av_cons (by tm_at "ev") (av_cons (i1 (ev_var rfl) (by tm_at "ev") (fun _ _ => rfl)) (av_cons (ev_call (by tm_at "av") ⟨_, rfl, rfl, rfl⟩) av_nil))) ⟨fs, i.a, _, rfl, hfs.1, ⟨a0, a1⟩, rfl, rfl⟩) ?_
        refine sws_one (sw_retE (ev_lcM (D := PyData.int) (ts := ts) (F := fun t => rowD (t, setF fs i.a (.words [wrapF (a + 4)]))) [("target", 8)] [false, false, false, false, false, false, false, true, true] [false, false, false, false, false, false, false, false, true] [] (by decide +kernel) (by decide +kernel) (by decide) (iw_list (by tm_at "ev")) hl fun X1 _ t ht => ev_tup (ds := [.int t, FD (setF fs i.a (.words [wrapF (a + 4)]))]) (by tm_at "av") rfl rfl) (by unfold rowD; show _ = SV.d (rowsD _); unfold rowsD; rw [List.map_map]; rfl) hR)
    have q5 := of_decide_eq_false h5
    rw [if_neg q5] at hR
    refine' sws_if2 (x := decide (i.op = "put")) ?ya (fun h6 => ?yb) fun h6 => ?yc
    case ya => tm_at "tv"
    case yb =>
      rw [if_pos (of_decide_eq_true h6)] at hR
      exact sws_one (sw_retE (ev_lst (ds := [rowD (wrapF (a + 4), fs)]) (av_cons (ev_tup (ds := [.int (wrapF (a + 4)), FD fs]) (by tm_at "av") rfl rfl) av_nil) rfl rfl) rfl hR)
    have q6 := of_decide_eq_false h6
    rw [if_neg q6] at hR
    refine' sws_if2 (x := decide (i.op = "get")) ?za (fun h7 => ?zb) fun h7 => ?zc
    case za => tm_at "tv"
    case zb =>
      rw [if_pos (of_decide_eq_true h7)] at hR
      exact sws_one (sw_retE (ev_lst (ds := [rowD (wrapF (a + 4), setF fs i.a .top)]) (av_cons (ev_tup (ds := [.int (wrapF (a + 4)), FD (setF fs i.a .top)]) (av_cons (by tm_at "ev") (av_cons (ev_call (av_cons (by tm_at "ev") (av_cons (i1 (ev_var rfl) (by tm_at "ev") (fun _ _ => rfl)) (av_cons ev_non av_nil))) ⟨fs, i.a, .top, rfl, hfs.1, ⟨a0, a1⟩, rfl, rfl⟩) av_nil)) rfl rfl) av_nil) rfl rfl) rfl hR)
    have q7 := of_decide_eq_false h7
    rw [if_neg q7] at hR
    have ho := ops_rest i.op fi.1 q1 (inS_no.mp h2) q3 q4 q5 q6 q7
    exact sws_one (sw_retE (ev_lst (ds := [rowD (wrapF (a + 4), setF fs i.a (aluF i fs))]) (av_cons (ev_tup (ds := [.int (wrapF (a + 4)), FD (setF fs i.a (aluF i fs))]) (av_cons (by tm_at "ev") (av_cons (ev_call (av_cons (by tm_at "ev") (av_cons (i1 (ev_var rfl) (by tm_at "ev") (fun _ _ => rfl)) (av_cons (ev_call (av_cons (ev_var rfl) (av_cons (by tm_at "ev") av_nil)) ⟨i, fs, rfl, fi, ho, hfs, rfl, rfl⟩) av_nil))) ⟨fs, i.a, _, rfl, hfs.1, ⟨a0, a1⟩, rfl, rfl⟩) av_nil)) rfl rfl) av_nil) rfl rfl) rfl hR)
end
end K23
/-! holding: words, facts, ascends -/
namespace K23
open PySem PySem.Spec PyProof.Rows L2
theorem kNI : kitB "NoneType" "int" = some false := by decide +kernel
theorem kNB : kitB "NoneType" "bool" = some false := by decide +kernel
theorem kNT : kitB "NoneType" "tuple" = some false := by decide +kernel
theorem kBI : kitB "bool" "int" = some true := by decide +kernel
theorem kBB : kitB "bool" "bool" = some true := by decide +kernel
theorem kBT : kitB "bool" "tuple" = some false := by decide +kernel
theorem kII : kitB "int" "int" = some true := by decide +kernel
theorem kIB : kitB "int" "bool" = some false := by decide +kernel
theorem kIT : kitB "int" "tuple" = some false := by decide +kernel
theorem kSI : kitB "str" "int" = some false := by decide +kernel
theorem kSB : kitB "str" "bool" = some false := by decide +kernel
theorem kST : kitB "str" "tuple" = some false := by decide +kernel
theorem kLI : kitB "list" "int" = some false := by decide +kernel
theorem kLB : kitB "list" "bool" = some false := by decide +kernel
theorem kLT : kitB "list" "tuple" = some false := by decide +kernel
theorem kTI : kitB "tuple" "int" = some false := by decide +kernel
theorem kTB : kitB "tuple" "bool" = some false := by decide +kernel
theorem kTT : kitB "tuple" "tuple" = some true := by decide +kernel
theorem kDI : kitB "dict" "int" = some false := by decide +kernel
theorem kDB : kitB "dict" "bool" = some false := by decide +kernel
theorem kDT : kitB "dict" "tuple" = some false := by decide +kernel
def isWordD : PyData → Bool
  | .int i => decide (0 ≤ i) && decide (i ≤ TOPn)
  | _ => false
def intOf : PyData → Int
  | .int i => i
  | _ => 0
def ascB (ns : List Int) : Bool := (List.range (ns.length - 1)).all fun i => decide ((ns[i]?).getD 0 < (ns[i + 1]?).getD 0)
def seqD (b : Bool) (ds : List PyData) : PyData := if b = true then .tuple ds else .list ds
def factWs (ds : List PyData) : Bool := if (decide (ds.length < 1) || (decide (16 < ds.length) || !ds.all isWordD)) = true then false else ascB (ds.map intOf)
def tupOf : PyData → Option (List PyData)
  | .tuple ds => some ds
  | _ => none
def strW : PyData := .str "words"
def strR : PyData := .str "range"
/-- is_fact of a tuple -/
def isFactT : List PyData → Bool
  | [x, y] => (match PyData.eqv x strW, tupOf y with
    | true, some ds => factWs ds
    | _, _ => false)
  | [x, y, z] => if PyData.eqv x strR = true then isWordD y && (isWordD z && decide (intOf y < intOf z)) else false
  | _ => false
def isFactD (d : PyData) : Bool := match d with
  | .none => true
  | .tuple ds => isFactT ds
  | _ => false
theorem ints_back : ∀ {ds : List PyData}, ds.all isWordD = true → ds = (ds.map intOf).map PyData.int
  | [], _ => rfl
  | d :: ds, h => by
    obtain ⟨h1, h2⟩ := Bool.and_eq_true_iff.mp (show (isWordD d && ds.all isWordD) = true from h)
    rw [List.map_cons, List.map_cons, ← ints_back h2]
    cases d <;> first | rfl | cases h1
theorem getD_at {ns : List Int} {i : Nat} (h : i < ns.length) : (ns.map PyData.int)[i]? = some (.int ((ns[i]?).getD 0)) := by
  rw [List.getElem?_map, List.getElem?_eq_getElem h]; rfl
section
variable {Z : Zx} [W : W0 Z]
abbrev cIsWord : Ct := fun xs S R => ∃ d : PyData, xs = [.d d] ∧ R (.d (.bool (isWordD d))) S
instance ok_is_word : HasFn Z "is_word" ["value"] 1 cIsWord := fn_intro sc_is_word nm_is_word (fun _ _ _ _ _ _ us hl => match us, hl with | [_], _ => rfl) (by tm_at "ctl") fun X B xs S R hc => by
  obtain ⟨d, rfl, hR⟩ := hc
  have no : ∀ {b : Bool}, (kitB (tyN d) "int" = some false) → isWordD d = false → SWs X (defBody (top 68)) ([SV.d d].map some ++ List.replicate (["value"].length - [SV.d d].length) none) S { nx := fun _ S' => R (.d .none) S', rt := R } := fun {b} hk hf => by
    rw [hf] at hR
    exact sws_one (sw_retE (ev_andV (x := false) (y := false) (ev_isi (t := "int") (by decide +kernel) (ev_var rfl) hk) fun h => by cases h) rfl hR)
  cases d with
  | int i =>
    refine sws_one (sw_retE (ev_andV (x := true) (ev_isi (d := .int i) (t := "int") (by decide +kernel) (ev_var rfl) kII) fun _ => ev_andV (x := !false) (ev_notV (ev_isi (d := .int i) (t := "bool") (by decide +kernel) (ev_var rfl) kIB)) fun _ => ev_one (ev_chainI op_le op_le (by tm_at "ev") (by tm_at "ev") (by tm_at "ev"))) rfl hR)
  | bool b => exact sws_one (sw_retE (ev_andV (x := true) (ev_isi (d := .bool b) (t := "int") (by decide +kernel) (ev_var rfl) kBI) fun _ => ev_andV (x := !true) (y := false) (ev_notV (ev_isi (d := .bool b) (t := "bool") (by decide +kernel) (ev_var rfl) kBB)) fun h => by cases h) rfl hR)
  | none => exact no (b := true) kNI rfl
  | str _ => exact no (b := true) kSI rfl
  | list _ => exact no (b := true) kLI rfl
  | tuple _ => exact no (b := true) kTI rfl
  | dict _ => exact no (b := true) kDI rfl
abbrev cAsc : Ct := fun xs S R => ∃ (b : Bool) (ns : List Int), xs = [.d (seqD b (ns.map PyData.int))] ∧ ns.length < 2 ^ 40 ∧ R (.d (.bool (ascB ns))) S
instance ok_ascends : HasFn Z "ascends" ["row"] 1 cAsc := fn_intro sc_ascends nm_ascends (fun _ _ _ _ _ _ us hl => match us, hl with | [_], _ => rfl) (by tm_at "ctl") fun X B xs S R hc => by
  obtain ⟨b, ns, rfl, hn, hR⟩ := hc
  have el : ∀ {X : Cx} [Bd Z X ["row", "at"] (defScope (top 69)) [true, true] [true, true] ["range", "len"] 0] {e : Expr} {δ : Dl} {S : Sto} {p p2 : Pos}, EV X e δ S (.d (seqD b (ns.map PyData.int))) → St1 X e → EV X (.Call (.Name "len" p2) [e] [] p) δ S (.d (.int ns.length)) := fun h s => by
    cases b
    · exact EV.is (ev_lenL h s) (by rw [List.length_map])
    · exact EV.is (ev_lenT h s) (by rw [List.length_map])
  have ei : ∀ {X : Cx} {a e : Expr} {δ : Dl} {S : Sto} {p : Pos} {i : Int} {j : Nat}, EV X a δ S (.d (seqD b (ns.map PyData.int))) → EV X e δ S (.d (.int i)) → i = (j : Int) → j < ns.length → PlainIx e → EV X (.Subscript a e p) δ S (.d (.int ((ns[j]?).getD 0))) := fun h h2 hij hj hp => by
    have z := atI_nat (getD_at hj)
    rw [← hij] at z
    cases b
    · exact ev_ixL h h2 z hp
    · exact ev_ixT h h2 z hp
  refine sws_cons (sw_forT (D := fun i : Nat => .int (1 + (i : Int))) (ts := List.range ((ns.length : Int) - 1).toNat) (iw_range2 (m := 1) (n := ns.length) (by tm_at "ev") (el (ev_var rfl) rfl) (by omega))
    (fun r δ' S' => ∃ (n : Nat) (u : Option SV), r = (List.range (ns.length - 1)).drop n ∧ δ' = [some (.d (seqD b (ns.map PyData.int))), u] ∧ S' = S ∧ ascB ns = r.all fun i => decide ((ns[i]?).getD 0 < (ns[i + 1]?).getD 0))
    ⟨0, none, by rw [List.drop_zero]; congr 1; omega, rfl, rfl, by unfold ascB; congr 2; omega⟩ (fun _ _ _ _ => trivial) ?_ ?_)
  · rintro t r δ' S' ⟨n, u, e1, rfl, rfl, e2⟩
    obtain ⟨rfl, hn2, rfl⟩ := range_drop e1
    have e2 : ascB ns = (decide ((ns[t]?).getD 0 < (ns[t + 1]?).getD 0) && ((List.range (ns.length - 1)).drop (t + 1)).all fun i => decide ((ns[i]?).getD 0 < (ns[i + 1]?).getD 0)) := e2
    refine ew_tg (sws_cons (sw_if (x := !decide ((ns[t]?).getD 0 < (ns[t + 1]?).getD 0)) (tv_not (tv_cmp (cv_lt (ei (j := t) (ev_var rfl) (by tm_at "ev") (by omega) (by omega) (fun _ _ => rfl)) (ei (j := t + 1) (ev_var rfl) (by tm_at "ev") (by omega) (by omega) (fun _ _ => rfl))))) (fun h => ?_) fun h => sws_nil (sws_nil ?_)))
    · have h : decide ((ns[t]?).getD 0 < (ns[t + 1]?).getD 0) = false := by simpa using h
      rw [h, Bool.false_and] at e2
      rw [e2] at hR
      tm_at "ret"
    · have h : decide ((ns[t]?).getD 0 < (ns[t + 1]?).getD 0) = true := by simpa using h
      rw [h, Bool.true_and] at e2
      exact ⟨t + 1, _, rfl, rfl, rfl, e2⟩
  · rintro δ' S' ⟨n, u, e1, rfl, rfl, e2⟩
    rw [List.all_nil] at e2
    rw [e2] at hR
    tm_at "ret"
end
end K23
/-! holding: is_fact, is_table -/
namespace K23
open PySem PySem.Spec PyProof.Rows L2
mutual
def szD : PyData → Bool
  | .tuple xs | .list xs => decide (xs.length < 2 ^ 20) && szAll xs
  | _ => true
def szAll : List PyData → Bool
  | [] => true
  | x :: xs => szD x && szAll xs
end
def tame (n : Nat) (d : PyData) : Prop := lay n d ∧ szD d = true
theorem szAll_iff : ∀ {xs : List PyData}, szAll xs = true ↔ ∀ x ∈ xs, szD x = true
  | [] => by simp [szAll]
  | x :: xs => by
    show (szD x && szAll xs) = true ↔ _
    rw [Bool.and_eq_true_iff, szAll_iff]; simp
theorem lay_mem {n : Nat} : ∀ {ds : List PyData}, PyData.canLayAll0 ds = true → PyData.depthAll ds ≤ n → ∀ e ∈ ds, lay n e
  | [], _, _, e, h => absurd h List.not_mem_nil
  | d :: ds, h1, h2, e, h => by
    obtain ⟨a1, a2⟩ := Bool.and_eq_true_iff.mp (show (d.canLay0 && PyData.canLayAll0 ds) = true from h1)
    have h2 : max d.depth (PyData.depthAll ds) ≤ n := h2
    rcases List.mem_cons.mp h with z | z
    · rw [z]; exact ⟨a1, by omega⟩
    · exact lay_mem a2 (by omega) e z
theorem tame_mem {n : Nat} {ds : List PyData} (h : tame n (.tuple ds)) : ∀ e ∈ ds, tame n e := fun e he =>
  ⟨(lay_mem h.1.1 (Nat.le_trans (Nat.le_succ _) h.1.2) e he), szAll_iff.mp (Bool.and_eq_true_iff.mp (show (decide (ds.length < 2 ^ 20) && szAll ds) = true from h.2)).2 e he⟩
theorem tame_len {n : Nat} {ds : List PyData} (h : tame n (.tuple ds)) : ds.length < 2 ^ 20 := of_decide_eq_true (Bool.and_eq_true_iff.mp (show (decide (ds.length < 2 ^ 20) && szAll ds) = true from h.2)).1
theorem tame_tup {n : Nat} {ds : List PyData} (h : ∀ d ∈ ds, tame n d) (hl : ds.length < 2 ^ 20) : tame (n + 1) (.tuple ds) :=
  ⟨lay_tup fun d hd => (h d hd).1, Bool.and_eq_true_iff.mpr ⟨decide_eq_true hl, szAll_iff.mpr fun d hd => (h d hd).2⟩⟩
theorem tame.up {n m : Nat} {d : PyData} (h : tame n d) (hn : n ≤ m) : tame m d := ⟨h.1.up hn, h.2⟩
def isTupB : PyData → Bool
  | .tuple _ => true
  | _ => false
theorem k_tup (d : PyData) : kitB (tyN d) "tuple" = some (isTupB d) := by
  cases d
  · exact kNT
  · exact kBT
  · exact kIT
  · exact kST
  · exact kLT
  · exact kTT
  · exact kDT
theorem strW_lay : lay 0 strW := lay_str (by decide +kernel)
theorem strR_lay : lay 0 strR := lay_str (by decide +kernel)
abbrev w0D : PyData := .tuple [.str "words", .tuple [.int 0]]
def rowFs : List PyData → Bool
  | [] => false
  | c :: r => decide ((c :: r).length = 16) && (PyData.eqv c w0D && (c :: r).all isFactD)
def rowOkD (m : Img) : PyData → Bool
  | .tuple [a, f] => isWordD a && (placeB m (intOf a) && (match f with | .tuple fs => rowFs fs | _ => false))
  | _ => false
def adrOf : PyData → Int
  | .tuple (a :: _) => intOf a
  | _ => 0
def isTableD (m : Img) : PyData → Bool
  | .tuple rows => rows.all (rowOkD m) && ascB (rows.map adrOf)
  | _ => false
section
variable {Z : Zx} [W : W0 Z]
abbrev cIsFact : Ct := fun xs S R => ∃ d : PyData, xs = [.d d] ∧ tame 50 d ∧ R (.d (.bool (isFactD d))) S
instance ok_is_fact : HasFn Z "is_fact" ["value"] 2 cIsFact := fn_intro sc_is_fact nm_is_fact (fun _ _ _ _ _ _ us hl => match us, hl with | [_], _ => rfl) (by tm_at "ctl") fun X B xs S R hc => by
  obtain ⟨d, rfl, hd, hR⟩ := hc
  have no : isTupB d = false → d ≠ .none → isFactD d = false → SWs X (defBody (top 70)) ([SV.d d].map some ++ List.replicate (["value", "w"].length - [SV.d d].length) none) S { nx := fun _ S' => R (.d .none) S', rt := R } := fun h1 h2 h3 => by
    rw [h3] at hR
    refine sws_ifN (TV.is (tv_cmp (cv_isN (x := d) (ev_var rfl))) (by cases d <;> first | rfl | exact absurd rfl h2)) rfl ?_
    refine sws_ifT (x := !false || false) (tv_w (wv_or (tv_not (tv_val (EV.is (ev_isi (t := "tuple") (by decide +kernel) (ev_var rfl) (k_tup d)) (by rw [h1])))) fun h => by cases h)) rfl ?_
    tm_at "ret"
  cases d with
  | none => exact sws_ifT (tv_cmp (cv_isN (x := PyData.none) (ev_var rfl))) rfl (by tm_at "ret")
  | bool _ => exact no rfl (fun z => by cases z) rfl
  | int _ => exact no rfl (fun z => by cases z) rfl
  | str _ => exact no rfl (fun z => by cases z) rfl
  | list _ => exact no rfl (fun z => by cases z) rfl
  | dict _ => exact no rfl (fun z => by cases z) rfl
  | tuple ds =>
    clear no
    have hR : R (.d (.bool (isFactT ds))) S := hR
    refine sws_ifN (tv_cmp (cv_isN (x := PyData.tuple ds) (ev_var rfl))) rfl ?_
    refine' sws_if2 (x := !true || decide (ds.length < 2)) ?a (fun h => ?b) fun h => ?c
    case a => exact tv_w (wv_or (tv_not (tv_val (ev_isi (d := .tuple ds) (t := "tuple") (by decide +kernel) (ev_var rfl) kTT))) fun _ => wv_or1 (TV.is (x := decide ((ds.length : Int) < 2)) (by tm_at "tv") (decide_eq_decide.mpr (by omega))))
    case b =>
      have e : isFactT ds = false := by
        match ds, h with
        | [], _ => rfl
        | [_], _ => rfl
      rw [e] at hR
      tm_at "ret"
    match ds, h with
    | x :: y :: rest, _ =>
      have hx := tame_mem hd x List.mem_cons_self
      have hy := tame_mem hd y (List.mem_cons_of_mem _ List.mem_cons_self)
      have i0 : atI (x :: y :: rest) 0 = some x := atIp (by decide) rfl
      have i1 : atI (x :: y :: rest) 1 = some y := atIp (by decide) rfl
      refine' sws_if2 (x := PyData.eqv x strW && (decide ((x :: y :: rest).length = 2) && isTupB y)) ?a2 (fun h => ?b2) fun h => ?c2
      case a2 => exact tv_w (wv_and (tv_cmp (cv_eq (ev_ixT (by tm_at "ev") (by tm_at "ev") i0) (by tm_at "ev") (lay_shp hx.1 (by decide)) (lay_shp strW_lay (by decide)))) fun _ => wv_and (TV.is (x := decide (((x :: y :: rest).length : Int) = 2)) (by tm_at "tv") (decide_eq_decide.mpr (by omega))) fun _ => wv_and1 (tv_val (ev_isi (t := "tuple") (by decide +kernel) (ev_ixT (by tm_at "ev") (by tm_at "ev") i1) (k_tup y))))
      case b2 =>
        obtain ⟨e1, e2⟩ := Bool.and_eq_true_iff.mp h
        obtain ⟨e2, e3⟩ := Bool.and_eq_true_iff.mp e2
        have e2 : rest = [] := by
          have := of_decide_eq_true e2
          simp only [List.length_cons] at this
          exact List.length_eq_zero_iff.mp (by omega)
        subst e2
        cases y with
        | tuple es =>
          have e4 : isFactT [x, .tuple es] = factWs es := by
            show (match PyData.eqv x strW, some es with | true, some ds => factWs ds | _, _ => false) = _
            rw [e1]
          rw [e4] at hR
          unfold factWs at hR
          have hl := tame_len hy
          refine' sws_cons (sw_if (x := decide (es.length < 1) || (decide (16 < es.length) || !es.all isWordD)) ?a3 (fun h => ?b3) fun h => ?c3)
          case a3 => exact tv_w (wv_or (TV.is (x := decide ((es.length : Int) < 1)) (tv_cmp (cv_lt (ev_lenT (ev_ixT (by tm_at "ev") (by tm_at "ev") i1)) (by tm_at "ev"))) (decide_eq_decide.mpr (by omega))) fun _ => wv_or (TV.is (x := decide (16 < (es.length : Int))) (tv_cmp (cv_gt (ev_lenT (ev_ixT (by tm_at "ev") (by tm_at "ev") i1)) (by tm_at "ev"))) (decide_eq_decide.mpr (by omega))) fun _ => wv_or1 (tv_not (tv_val (ev_allT (P := isWordD) (ts := es) (ev_lcM (D := fun d => d) (F := fun d => .bool (isWordD d)) [("w", 1)] [false, true] [false, true] ["is_word"] (by decide +kernel) (by decide +kernel) (by decide) (by rw [show es.map (fun d => d) = es from List.map_id' es]; exact iw_tup (ev_ixT (by tm_at "ev") (by tm_at "ev") i1)) (Nat.lt_trans hl (by decide)) fun X1 _ t ht => ev_call (by tm_at "av") ⟨t, rfl, rfl, rfl⟩)))))
          case b3 =>
            rw [if_pos h] at hR
            tm_at "ret"
          rw [if_neg (by rw [h]; decide)] at hR
          have ha : es.all isWordD = true := by
            have z := Bool.or_eq_false_iff.mp h
            have z := (Bool.or_eq_false_iff.mp z.2).2
            simpa using z
          have hb := ints_back ha
          refine sws_nil (sws_one (sw_retE (ev_call (xs := [.d (seqD true ((es.map intOf).map PyData.int))]) (av_cons (EV.is (ev_ixT (by tm_at "ev") (by tm_at "ev") i1) (by show SV.d (.tuple es) = SV.d (.tuple _); rw [← hb])) av_nil) ⟨true, es.map intOf, rfl, by rw [List.length_map]; omega, rfl, rfl⟩) rfl hR))
        | _ => cases e3
      refine' sws_if2 (x := PyData.eqv x strR && decide ((x :: y :: rest).length = 3)) ?a4 (fun h4 => ?b4) fun h4 => ?c4
      case a4 => exact tv_w (wv_and (tv_cmp (cv_eq (ev_ixT (by tm_at "ev") (by tm_at "ev") i0) (by tm_at "ev") (lay_shp hx.1 (by decide)) (lay_shp strR_lay (by decide)))) fun _ => wv_and1 (TV.is (x := decide (((x :: y :: rest).length : Int) = 3)) (by tm_at "tv") (decide_eq_decide.mpr (by omega))))
      case b4 =>
        obtain ⟨e1, e2⟩ := Bool.and_eq_true_iff.mp h4
        have e2 := of_decide_eq_true e2
        match rest, e2 with
        | [z], _ =>
          have e5 : isFactT [x, y, z] = (isWordD y && (isWordD z && decide (intOf y < intOf z))) := if_pos e1
          rw [e5] at hR
          have i2 : atI [x, y, z] 2 = some z := atIp (by decide) rfl
          refine sws_one (sw_retE (ev_andV (ev_call (av_cons (ev_ixT (by tm_at "ev") (by tm_at "ev") i1) av_nil) ⟨y, rfl, rfl, rfl⟩) fun h1 => ev_andV (ev_call (av_cons (ev_ixT (by tm_at "ev") (by tm_at "ev") i2) av_nil) ⟨z, rfl, rfl, rfl⟩) fun h2 => ev_one ?_) rfl hR)
          cases y <;> first | cases h1; done | skip
          cases z <;> first | cases h2; done | skip
          exact ev_cmp (cv_lt (ev_ixT (by tm_at "ev") (by tm_at "ev") i1) (ev_ixT (by tm_at "ev") (by tm_at "ev") i2))
      have e : isFactT (x :: y :: rest) = false := by
        match rest, h, h4 with
        | [], h, _ =>
          show (match PyData.eqv x strW, tupOf y with | true, some ds => factWs ds | _, _ => false) = false
          cases e1 : PyData.eqv x strW with
          | false => rfl
          | true =>
            rw [e1] at h
            cases y <;> first | rfl | cases h
        | [z], _, h4 =>
          show (if PyData.eqv x strR = true then _ else false) = false
          cases e1 : PyData.eqv x strR with
          | false => rfl
          | true => rw [e1] at h4; cases h4
        | _ :: _ :: _, _, _ => rfl
      rw [e] at hR
      tm_at "ret"
end
end K23
/-! holding: is_table, facts_within, plain -/
namespace K23
open PySem PySem.Spec PyProof.Rows L2
theorem w0_lay : lay 2 w0D := factD_lay (.words [0])
def nothing : Facts := .words [0] :: List.replicate 15 .top
theorem c_nothing : c_NOTHING = FD nothing := rfl
def fwB (told g : Facts) : Bool := (List.zip told g).all fun t => win t.1 t.2
section
variable {Z : Zx} [W : W0 Z]
abbrev cIsTable : Ct := fun xs S R => ∃ (m : Img) (d : PyData), xs = [.d m.D, .d d] ∧ m.ok ∧ tame 50 d ∧ R (.d (.bool (isTableD m d))) S
instance ok_is_table : HasFn Z "is_table" ["image", "value"] 4 cIsTable := fn_intro sc_is_table nm_is_table (fun _ _ _ _ _ _ us hl => match us, hl with | [_, _], _ => rfl) (by tm_at "ctl") fun X B xs S R hc => by
  obtain ⟨m, d, rfl, hm, hd, hR⟩ := hc
  by_cases ht : isTupB d = true
  case neg =>
    have ht : isTupB d = false := by simpa using ht
    have e : isTableD m d = false := by cases d <;> first | rfl | cases ht
    rw [e] at hR
    refine sws_ifT (x := !false) (tv_not (tv_val (EV.is (ev_isi (t := "tuple") (by decide +kernel) (ev_var rfl) (k_tup d)) (by rw [ht])))) rfl ?_
    tm_at "ret"
  cases d with
  | tuple rows =>
    refine sws_ifN (x := !true) (tv_not (tv_val (ev_isi (d := .tuple rows) (t := "tuple") (by decide +kernel) (ev_var rfl) kTT))) rfl ?_
    have hl := tame_len hd
    have hR : R (.d (.bool (rows.all (rowOkD m) && ascB (rows.map adrOf)))) S := hR
    refine sws_cons (sw_forT (D := fun d => d) (ts := rows) (by rw [show rows.map (fun d => d) = rows from List.map_id' rows]; exact iw_tup (ev_var rfl))
      (fun r δ' S' => ∃ (l : List PyData) (u : Option SV), rows = l ++ r ∧ δ' = [some (.d m.D), some (.d (.tuple rows)), u, none] ∧ S' = S ∧ l.all (rowOkD m) = true)
      ⟨[], none, rfl, rfl, rfl, rfl⟩ (fun _ _ _ _ => trivial) ?_ ?_)
    · rintro row r δ' S' ⟨l, u, e1, rfl, rfl, e2⟩
      have hrow := tame_mem hd row (by rw [e1]; simp)
      have fin : rowOkD m row = false → R (.d (.bool false)) S' := fun h => by
        have e : rows.all (rowOkD m) = false := by rw [e1, List.all_append, e2, List.all_cons, h]; rfl
        rw [e, Bool.false_and] at hR
        exact hR
      refine ew_tg ?_
      by_cases hr : isTupB row = true
      case neg =>
        have hr : isTupB row = false := by simpa using hr
        have hR := fin (by cases row <;> first | rfl | cases hr)
        refine sws_ifT (x := !false || false) (tv_w (wv_or (tv_not (tv_val (EV.is (ev_isi (t := "tuple") (by decide +kernel) (ev_var rfl) (k_tup row)) (by rw [hr])))) fun h => by cases h)) rfl ?_
        tm_at "ret"
      cases row with
      | tuple rs =>
        have hlr := tame_len hrow
        by_cases h2 : rs.length = 2
        case neg =>
          have hR := fin (by
            match rs, h2 with
            | [], _ => rfl
            | [_], _ => rfl
            | _ :: _ :: _ :: _, _ => rfl)
          refine sws_ifT (x := !true || (true || false)) (tv_w (wv_or (tv_not (tv_val (ev_isi (d := .tuple rs) (t := "tuple") (by decide +kernel) (ev_var rfl) kTT))) fun _ => wv_or (TV.is (x := !decide ((rs.length : Int) = 2)) (by tm_at "tv") (by rw [decide_eq_false (by omega)]; rfl)) fun h => by cases h)) rfl ?_
          tm_at "ret"
        match rs, h2 with
        | [a, f], _ =>
          have ha := tame_mem hrow a List.mem_cons_self
          have hf := tame_mem hrow f (List.mem_cons_of_mem _ List.mem_cons_self)
          have i0 : atI [a, f] 0 = some a := atIp (by decide) rfl
          have i1 : atI [a, f] 1 = some f := atIp (by decide) rfl
          refine' sws_if2 (x := !true || (!true || (!isWordD a || !placeB m (intOf a)))) ?a1 (fun h => ?b1) fun h => ?c1
          case a1 =>
            refine tv_w (wv_or (tv_not (tv_val (ev_isi (d := .tuple [a, f]) (t := "tuple") (by decide +kernel) (ev_var rfl) kTT))) fun _ => wv_or (TV.is (x := !decide ((([a, f] : List PyData).length : Int) = 2)) (by tm_at "tv") rfl) fun _ => wv_or (tv_not (tv_val (ev_call (av_cons (ev_ixT (by tm_at "ev") (by tm_at "ev") i0) av_nil) ⟨a, rfl, rfl, rfl⟩))) fun h => wv_or1 (tv_not (tv_val ?_)))
            have h : isWordD a = true := by simpa using h
            cases a <;> first | cases h; done | skip
            exact ev_call (av_cons (by tm_at "ev") (av_cons (ev_ixT (by tm_at "ev") (by tm_at "ev") i0) av_nil)) ⟨m, _, rfl, hm, rfl, rfl⟩
          case b1 =>
            have hR := fin (by
              show (isWordD a && (placeB m (intOf a) && _)) = false
              cases h1 : isWordD a with
              | false => rfl
              | true =>
                cases h2 : placeB m (intOf a) with
                | false => rfl
                | true => rw [h1, h2] at h; cases h)
            tm_at "ret"
          have hw : isWordD a = true ∧ placeB m (intOf a) = true := by
            have z := (Bool.or_eq_false_iff.mp (Bool.or_eq_false_iff.mp (Bool.or_eq_false_iff.mp h).2).2)
            exact ⟨by simpa using z.1, by simpa using z.2⟩
          by_cases hf2 : isTupB f = true
          case neg =>
            have hf2 : isTupB f = false := by simpa using hf2
            have hR := fin (by
              show (isWordD a && (placeB m (intOf a) && _)) = false
              rw [hw.1, hw.2]
              cases f <;> first | rfl | cases hf2)
            refine sws_ifT (x := !false || false) (tv_w (wv_or (tv_not (tv_val (EV.is (ev_isi (t := "tuple") (by decide +kernel) (ev_ixT (by tm_at "ev") (by tm_at "ev") i1) (k_tup f)) (by rw [hf2])))) fun h => by cases h)) rfl ?_
            tm_at "ret"
          cases f with
          | tuple fs =>
            have hrow : rowOkD m (.tuple [a, .tuple fs]) = rowFs fs := by
              show (isWordD a && (placeB m (intOf a) && rowFs fs)) = _
              rw [hw.1, hw.2]; rfl
            rw [hrow] at fin
            have hlf := tame_len hf
            by_cases h16 : fs.length = 16
            case neg =>
              have hR := fin (by
                cases fs with
                | nil => rfl
                | cons c r2 =>
                  show (decide _ && _) = false
                  rw [decide_eq_false h16]; rfl)
              refine sws_ifT (x := !true || (true || false)) (tv_w (wv_or (tv_not (tv_val (ev_isi (d := .tuple fs) (t := "tuple") (by decide +kernel) (ev_ixT (by tm_at "ev") (by tm_at "ev") i1) kTT))) fun _ => wv_or (TV.is (x := !decide ((fs.length : Int) = 16)) (tv_cmp (cv_neI (ev_lenT (ev_ixT (by tm_at "ev") (by tm_at "ev") i1)) (by tm_at "ev"))) (by rw [decide_eq_false (by omega)]; rfl)) fun h => by cases h)) rfl ?_
              tm_at "ret"
            cases fs with
            | nil => cases h16
            | cons c r2 =>
              have hcl := tame_mem hf c List.mem_cons_self
              have j0 : atI (c :: r2) 0 = some c := atI_head
              have e3 : rowFs (c :: r2) = (PyData.eqv c w0D && (c :: r2).all isFactD) := by
                show (decide _ && _) = _
                rw [decide_eq_true h16]; rfl
              rw [e3] at fin
              refine' sws_if2 (x := !true || (!true || !PyData.eqv c w0D)) ?a4 (fun h => ?b4) fun h => ?c4
              case a4 => exact tv_w (wv_or (tv_not (tv_val (ev_isi (d := .tuple (c :: r2)) (t := "tuple") (by decide +kernel) (ev_ixT (by tm_at "ev") (by tm_at "ev") i1) kTT))) fun _ => wv_or (TV.is (x := !decide (((c :: r2).length : Int) = 16)) (tv_cmp (cv_neI (ev_lenT (ev_ixT (by tm_at "ev") (by tm_at "ev") i1)) (by tm_at "ev"))) (by rw [decide_eq_true (by omega)])) fun _ => wv_or1 (tv_cmp (cv_ne (ev_ixT (ev_ixT (by tm_at "ev") (by tm_at "ev") i1) (by tm_at "ev") j0) (EV.is (ev_tup (ds := [.str "words", .tuple [.int 0]]) (by tm_at "av") rfl rfl) rfl) (lay_shp hcl.1 (by decide)) (lay_shp w0_lay (by decide)))))
              case b4 =>
                have z : PyData.eqv c w0D = false := by simpa using h
                rw [z] at fin
                have hR := fin rfl
                tm_at "ret"
              have z : PyData.eqv c w0D = true := by simpa using h
              rw [z] at fin
              refine' sws_if2 (x := !(c :: r2).all isFactD) ?a5 (fun h => ?b5) fun h => ?c5
              case a5 => exact tv_not (tv_val (ev_allT (P := isFactD) (ts := c :: r2) (ev_lcM (D := fun d => d) (F := fun d => .bool (isFactD d)) [("fact", 3)] [false, false, false, true] [false, false, false, true] ["is_fact"] (by decide +kernel) (by decide +kernel) (by decide) (by rw [show (c :: r2).map (fun d => d) = c :: r2 from List.map_id' _]; exact iw_tup (ev_ixT (by tm_at "ev") (by tm_at "ev") i1)) (Nat.lt_trans hlf (by decide)) fun X1 _ t ht => ev_call (by tm_at "av") ⟨t, rfl, ((tame_mem hf t ht).up (by decide)), rfl, rfl⟩)))
              case b5 =>
                have z2 : (c :: r2).all isFactD = false := by
                  cases hx : (c :: r2).all isFactD with
                  | false => rfl
                  | true => rw [hx] at h; cases h
                rw [z2] at fin
                have hR := fin rfl
                tm_at "ret"
              have z2 : (c :: r2).all isFactD = true := by
                cases hx : (c :: r2).all isFactD with
                | true => rfl
                | false => rw [hx] at h; cases h
              refine sws_nil ⟨l ++ [.tuple [a, .tuple (c :: r2)]], _, by rw [e1]; simp, rfl, rfl, ?_⟩
              rw [List.all_append, e2, List.all_cons, hrow, e3, z, z2]; rfl
          | _ => cases hf2
      | _ => cases hr
    · rintro δ' S' ⟨l, u, e1, rfl, rfl, e2⟩
      rw [List.append_nil] at e1
      subst e1
      rw [e2, Bool.true_and] at hR
      have ad : ∀ row ∈ rows, ∃ f, row = .tuple [.int (adrOf row), f] := fun row hr => by
        have z := List.all_eq_true.mp e2 row hr
        unfold rowOkD at z
        split at z
        · rename_i a f
          have z1 := (Bool.and_eq_true_iff.mp z).1
          cases a <;> first | exact ⟨f, rfl⟩ | cases z1
        · cases z
      refine sws_one (sw_retE (ev_call (xs := [.d (seqD false ((rows.map adrOf).map PyData.int))]) (av_cons (EV.is (ev_lcM (D := fun d => d) (ts := rows) (F := fun d => .int (adrOf d)) [("row", 2)] [false, false, true, false] [false, false, true, false] [] (by decide +kernel) (by decide +kernel) (by decide) (by rw [show rows.map (fun d => d) = rows from List.map_id' rows]; exact iw_tup (ev_var rfl)) (Nat.lt_trans hl (by decide)) fun X1 _ t ht => ?_) (by show _ = SV.d (.list _); rw [List.map_map]; rfl)) av_nil) ⟨false, rows.map adrOf, rfl, by rw [List.length_map]; exact Nat.lt_trans hl (by decide), rfl, rfl⟩) rfl hR)
      obtain ⟨f, hf⟩ := ad t ht
      exact ev_ixT (ds := [.int (adrOf t), f]) (EV.is (ev_var rfl) (by show SV.d t = SV.d (.tuple _); rw [← hf])) (by tm_at "ev") (atIp (by decide) rfl)
  | _ => cases ht
abbrev cFw : Ct := fun xs S R => ∃ (a b : Facts), xs = [.d (FD a), .d (FD b)] ∧ okT a ∧ okT b ∧ R (.d (.bool (fwB a b))) S
instance ok_facts_within : HasFn Z "facts_within" ["first", "second"] 3 cFw := fn_intro sc_facts_within nm_facts_within (fun _ _ _ _ _ _ us hl => match us, hl with | [_, _], _ => rfl) (by tm_at "ctl") fun X B xs S R hc => by
  obtain ⟨a, b, rfl, ha, hb, hR⟩ := hc
  refine sws_one (sw_retE (ev_allT (P := fun t : Fact × Fact => win t.1 t.2) (ts := List.zip a b) (ev_lc2 (ts := List.zip a b) (D1 := fun t : Fact × Fact => t.1.D) (D2 := fun t : Fact × Fact => t.2.D) (F := fun t : Fact × Fact => .bool (win t.1 t.2)) [("a", 2), ("b", 3)] [false, false, true, true] [false, false, true, true] ["within"] (by decide +kernel) (by decide +kernel) (by decide) (by decide) ?_ ?_ fun X1 _ z hz => ?_)) rfl hR)
  · rw [← pairD_map]
    exact iw_zip (xs := a.map Fact.D) (ys := b.map Fact.D) (by tm_at "ev") (by tm_at "ev")
  · rw [List.length_zip, ha.1, hb.1]; decide
  · obtain ⟨z1, z2⟩ := z
    have h12 := List.of_mem_zip hz
    exact ev_call (by tm_at "av") ⟨z1, z2, rfl, ha.2 z1 h12.1, (hb.2 z2 h12.2).1, rfl, rfl⟩
def plainF (m : Img) : List Row := (placesF m).map fun a => (a, nothing)
def tabD (rs : List Row) : PyData := .tuple (rs.map rowD)
abbrev cPlain : Ct := fun xs S R => ∃ m : Img, xs = [.d m.D] ∧ m.ok ∧ R (.d (tabD (plainF m))) S
instance ok_plain : HasFn Z "plain" ["image"] 2 cPlain := fn_intro sc_plain nm_plain (fun _ _ _ _ _ _ us hl => match us, hl with | [_], _ => rfl) (by tm_at "ctl") fun X B xs S R hc => by
  obtain ⟨m, rfl, hm, hR⟩ := hc
  exact sws_one (sw_retE (ev_tupleL (ev_lcM (D := PyData.int) (ts := placesF m) (F := fun a => rowD (a, nothing)) [("address", 1)] [false, true] [false, true] ["NOTHING"] (by decide +kernel) (by decide +kernel) (by decide) (iw_list (ev_call (by tm_at "av") ⟨m, rfl, hm, rfl, rfl⟩)) (places_len m hm) fun X1 _ t ht => ev_tup (ds := [.int t, FD nothing]) (av_cons (by tm_at "ev") (av_cons (ev_cst (d := FD nothing)) av_nil)) rfl rfl)) (by unfold tabD plainF; rw [List.map_map]; rfl) hR)
end
end K23
/-! holding: facts_at, holds_table -/
namespace K23
open PySem PySem.Spec PyProof.Rows L2
theorem valT_at {β : Type} : ∀ {m : List (Int × β)} {i : Nat} {t : Int} {v : β}, (m.map (·.1)).Pairwise (· < ·) → m[i]? = some (t, v) → valT m t = some v
  | [], i, _, _, _, h => by cases h
  | p :: r, 0, t, v, _, h => by
    cases h
    exact if_pos rfl
  | p :: r, i + 1, t, v, hp, h => by
    obtain ⟨h1, h2⟩ := List.pairwise_cons.mp hp
    have hm : t ∈ r.map (·.1) := List.mem_map.mpr ⟨(t, v), List.mem_of_getElem? (show r[i]? = some (t, v) from h), rfl⟩
    have hlt : p.1 < t := h1 t hm
    show (if p.1 = t then some p.2 else valT r t) = _
    rw [if_neg (by omega)]
    exact valT_at h2 h
theorem valT_mem {β : Type} : ∀ {m : List (Int × β)} {t : Int} {v : β}, valT m t = some v → (t, v) ∈ m
  | [], _, _, h => by cases h
  | p :: r, t, v, h => by
    have h : (if p.1 = t then some p.2 else valT r t) = some v := h
    by_cases e : p.1 = t
    · rw [if_pos e] at h
      cases h
      rw [← e]; exact List.mem_cons_self
    · rw [if_neg e] at h
      exact List.mem_cons_of_mem _ (valT_mem h)
def adr (rs : List Row) (i : Nat) : Int := ((rs[i]?).map (·.1)).getD 0
def optF : Option Facts → PyData
  | none => .none
  | some fs => FD fs
theorem asc_lt {ns : List Int} (h : ns.Pairwise (· < ·)) {i j : Nat} (hij : i < j) (hj : j < ns.length) : ns[i]'(by omega) < ns[j] := List.pairwise_iff_getElem.mp h i j (by omega) hj hij
theorem adr_eq {rs : List Row} {i : Nat} (h : i < rs.length) : adr rs i = (rs[i]).1 := by
  unfold adr
  rw [List.getElem?_eq_getElem h]; rfl
theorem adr_lt {rs : List Row} (h : (rs.map (·.1)).Pairwise (· < ·)) {i j : Nat} (hij : i < j) (hj : j < rs.length) : adr rs i < adr rs j := by
  have z := asc_lt h hij (by rw [List.length_map]; exact hj)
  rw [List.getElem_map, List.getElem_map] at z
  rw [adr_eq (by omega), adr_eq hj]
  exact z
section
variable {Z : Zx} [W : W0 Z]
abbrev cFactsAt : Ct := fun xs S R => ∃ (rs : List Row) (a : Int), xs = [.d (tabD rs), .d (.int a)] ∧ rs.length < 2 ^ 40 ∧ (rs.map (·.1)).Pairwise (· < ·) ∧ R (.d (optF (valT rs a))) S
instance ok_facts_at : HasFn Z "facts_at" ["table", "address"] 1 cFactsAt := fn_intro sc_facts_at nm_facts_at (fun _ _ _ _ _ _ us hl => match us, hl with | [_, _], _ => rfl) (by tm_at "ctl") fun X B xs S R hc => by
  obtain ⟨rs, a, rfl, hn, hp, hR⟩ := hc
  have rd : ∀ {i : Nat} (h : i < rs.length), (rs.map rowD)[i]? = some (.tuple [.int (adr rs i), FD (rs[i]).2]) := fun {i} h => by
    rw [List.getElem?_map, List.getElem?_eq_getElem h, adr_eq h]; rfl
  tm_at "set"
  refine sws_setV (v := .d (.int (rs.length : Int))) (EV.is (ev_lenT (ds := rs.map rowD) (ev_var rfl)) (by rw [List.length_map])) ?_
  refine sws_cons (sw_while (fun k δ' S' => ∃ (lo hi : Nat) (u : Option SV), k = hi - lo ∧ lo ≤ hi ∧ hi ≤ rs.length ∧ δ' = [some (.d (tabD rs)), some (.d (.int a)), some (.d (.int (lo : Int))), some (.d (.int (hi : Int))), u] ∧ S' = S ∧ (∀ i, i < lo → adr rs i < a) ∧ (∀ i, hi ≤ i → i < rs.length → a ≤ adr rs i)) rs.length
    ⟨0, rs.length, none, by omega, Nat.zero_le _, Nat.le_refl _, rfl, rfl, fun i h => absurd h (Nat.not_lt_zero _), fun i h h2 => absurd h2 (by omega)⟩ ?_)
  rintro k δ' S' ⟨lo, hi, u, rfl, h1, h2, rfl, rfl, h3, h4⟩
  refine ⟨decide ((lo : Int) < (hi : Int)), by tm_at "tv", fun h => ?_, fun h => ?_⟩
  · have h : lo < hi := by have := of_decide_eq_true h; omega
    have e : ((lo : Int) + (hi : Int)) / 2 = (((lo + hi) / 2 : Nat) : Int) := by omega
    have hm : (lo + hi) / 2 < rs.length := by omega
    refine sws_setV (v := .d (.int (((lo + hi) / 2 : Nat) : Int))) (EV.is (ev_fdivP (by tm_at "ev") (by tm_at "ev") (by decide) (by decide)) (by rw [e])) ?_
    generalize hmm : (lo + hi) / 2 = mid at *
    refine sws_cons (sw_if (x := decide (adr rs mid < a)) (tv_cmp (cv_lt (ev_ixT (ev_ixT (ds := rs.map rowD) (ev_var rfl) (by tm_at "ev") (atI_nat (rd hm))) (by tm_at "ev") (atIp (by decide) rfl)) (by tm_at "ev"))) (fun hx => ?_) fun hx => ?_)
    · have hx := of_decide_eq_true hx
      refine sws_setV (v := .d (.int ((mid + 1 : Nat) : Int))) (EV.is (by tm_at "ev") (by simp)) (sws_nil (sws_nil ⟨hi - (mid + 1), by omega, mid + 1, hi, _, rfl, by omega, h2, rfl, rfl, fun i hi2 => ?_, h4⟩))
      rcases Nat.lt_or_ge i mid with z | z
      · exact Int.lt_trans (adr_lt hp z hm) hx
      · have : i = mid := by omega
        rw [this]; exact hx
    · have hx := of_decide_eq_false hx
      refine sws_setV (v := .d (.int (mid : Int))) (by tm_at "ev") (sws_nil (sws_nil ⟨mid - lo, by omega, lo, mid, _, rfl, by omega, by omega, rfl, rfl, h3, fun i hi2 hi3 => ?_⟩))
      rcases Nat.lt_or_ge mid i with z | z
      · have := adr_lt hp z hi3
        omega
      · have : i = mid := by omega
        rw [this]; omega
  · have h : lo = hi := by have := of_decide_eq_false h; omega
    subst h
    by_cases hl : lo < rs.length
    · refine' sws_if2 (x := decide ((lo : Int) < (rs.length : Int)) && decide (adr rs lo = a)) ?a1 (fun hx => ?b1) fun hx => ?c1
      case a1 => exact tv_w (wv_and (TV.is (tv_cmp (cv_lt (by tm_at "ev") (ev_lenT (ds := rs.map rowD) (ev_var rfl)))) (by rw [List.length_map])) fun _ => wv_and1 (tv_cmp (cv_eqI (ev_ixT (ev_ixT (ds := rs.map rowD) (ev_var rfl) (by tm_at "ev") (atI_nat (rd hl))) (by tm_at "ev") (atIp (by decide) rfl)) (by tm_at "ev"))))
      case b1 =>
        have hx := of_decide_eq_true (Bool.and_eq_true_iff.mp hx).2
        have hv : valT rs a = some (rs[lo]).2 := by
          rw [← hx, adr_eq hl]
          exact valT_at hp (i := lo) (by rw [List.getElem?_eq_getElem hl])
        rw [hv] at hR
        exact sws_one (sw_retE (ev_ixT (ev_ixT (ds := rs.map rowD) (ev_var rfl) (by tm_at "ev") (atI_nat (rd hl))) (by tm_at "ev") (atIp (by decide) rfl)) rfl hR)
      rw [decide_eq_true (by omega : (lo : Int) < (rs.length : Int)), Bool.true_and] at hx
      have hx := of_decide_eq_false hx
      have hv : valT rs a = none := by
        cases e : valT rs a with
        | none => rfl
        | some v =>
          obtain ⟨i, hi, he⟩ := List.mem_iff_getElem.mp (valT_mem e)
          have ea : adr rs i = a := by rw [adr_eq hi, he]
          rcases Nat.lt_trichotomy i lo with z | z | z
          · have := h3 i z; omega
          · exact absurd (z ▸ ea) hx
          · have k1 := adr_lt hp z hi
            have k2 := h4 lo (Nat.le_refl _) hl
            omega
      rw [hv] at hR
      tm_at "ret"
    · refine sws_ifN (x := false && false) (tv_w (wv_and (TV.is (tv_cmp (cv_lt (by tm_at "ev") (ev_lenT (ds := rs.map rowD) (ev_var rfl)))) (by rw [List.length_map]; exact decide_eq_false (by omega))) fun hx => by cases hx)) rfl ?_
      have hv : valT rs a = none := by
        cases e : valT rs a with
        | none => rfl
        | some v =>
          obtain ⟨i, hi, he⟩ := List.mem_iff_getElem.mp (valT_mem e)
          have ea : adr rs i = a := by rw [adr_eq hi, he]
          have := h3 i (by omega)
          omega
      rw [hv] at hR
      tm_at "ret"
end
end K23
/-! plain law 2: the ways' facts stay valid -/
namespace K23
open PySem PySem.Spec PyProof.Rows L2
theorem top_ok : Fact.top.ok := ⟨trivial, trivial⟩
theorem factAt_ok {fs : Facts} (h : okT fs) (r : Int) : (factAt fs r).ok := by
  unfold factAt
  cases e : fs[r.toNat]? with
  | none => exact top_ok
  | some f => exact h.2 f (List.mem_of_getElem? e)
theorem aluF_ok {i : Ins} {fs : Facts} (fi : i.fit) (h : okT fs) : (aluF i fs).ok := by
  unfold aluF
  split
  · rename_i e
    have k := fi.2.2.2.2.1 e
    have e14 : (2 : Int) ^ (14 : Int).toNat = 16384 := by decide
    refine one_ok ?_
    rw [e14]
    unfold okW TOPn
    omega
  · split
    · exact resF_ok (factAt_ok h _) (factAt_ok h _)
    · exact resF_ok (factAt_ok h _) (one_ok (wrap_ok _))
theorem jn_mem {rs : List Row} {p : Row} (h : p ∈ jnF rs) : valT (rs.foldl jnS []) p.1 = some p.2 := by
  obtain ⟨t, ht, rfl⟩ := List.mem_map.mp h
  have hh : hasT (rs.foldl jnS []) t = true := has_mem.mpr (isort_perm.mem_iff.mp ht)
  obtain ⟨g, hg⟩ := Option.isSome_iff_exists.mp hh
  show valT _ t = some ((valT (rs.foldl jnS []) t).getD [])
  rw [hg]; rfl
theorem memF_ok {m : Img} {a : Int} {i : Ins} {fs : Facts} (hm : m.ok) (h : okT fs) : ∀ p ∈ memF m a i fs, okT p.2 := by
  intro p hp
  unfold memF at hp
  split at hp
  · rw [List.mem_singleton.mp hp]; exact h
  · rw [List.mem_singleton.mp hp]; exact setF_ok h (loadedF_ok hm)
theorem waysF_ok {m : Img} {a : Int} {fs : Facts} {rs : List Row} (hm : m.ok) (h : okT fs) (e : waysF m a fs = some rs) : ∀ p ∈ rs, okT p.2 := by
  unfold waysF at e
  split at e
  · cases e
    exact fun p hp => absurd hp List.not_mem_nil
  · rename_i i hi
    have fi := decode_fit hi
    split at e
    · cases e
      exact fun p hp => absurd hp List.not_mem_nil
    split at e
    · rename_i hb
      cases e
      intro p hp
      have ⟨n1, n2⟩ := of_list (inS_iff.mp hb) (by decide)
      exact (jn_fold _ [] (bwF_ok h fi.2.1 (fi.2.2.2.2.2.1 n1 n2)) (fun t g z => by cases z)).1 _ _ (jn_mem hp)
    split at e
    · cases e
      exact memF_ok hm h
    split at e
    · cases e
      intro p hp
      rw [List.mem_singleton.mp hp]; exact setF_ok h (one_ok (wrap_ok _))
    split at e
    · split at e
      · cases e
      · cases e
        intro p hp
        obtain ⟨t, _, rfl⟩ := List.mem_map.mp hp
        exact setF_ok h (one_ok (wrap_ok _))
    split at e
    · cases e
      intro p hp
      rw [List.mem_singleton.mp hp]; exact h
    split at e
    · cases e
      intro p hp
      rw [List.mem_singleton.mp hp]; exact setF_ok h top_ok
    · cases e
      intro p hp
      rw [List.mem_singleton.mp hp]; exact setF_ok h (aluF_ok fi h)
/-! ### register 0 -/
def zH (fs : Facts) : Prop := fs[0]? = some (.words [0])
theorem zH_set {fs : Facts} {r : Int} {f : Fact} (h : zH fs) (h0 : 0 ≤ r) : zH (setF fs r f) := by
  unfold setF
  split
  · exact h
  · unfold zH
    rw [List.getElem?_set_ne (by omega)]; exact h
theorem zH_zip {fs gs : Facts} (h1 : zH fs) (h2 : zH gs) : zH (List.zipWith joinF fs gs) := by
  unfold zH at *
  rw [List.getElem?_zipWith, h1, h2]
  rfl
theorem refF_zH {op : Str} {taken : Bool} {fs t : Facts} {ra rb : Int} (h : zH fs) (ha : 0 ≤ ra) (hb : 0 ≤ rb) (e : refF op taken fs ra rb = some t) : zH t := by
  unfold refF at e
  split at e
  · cases e
  · cases e
    exact zH_set (zH_set h ha) hb
theorem jnS_zH {m : List Row} {p : Row} (hm : ∀ t g, valT m t = some g → zH g) (hp : zH p.2) : ∀ t g, valT (jnS m p) t = some g → zH g := by
  intro t g h
  unfold jnS at h
  rw [valT_put] at h
  split at h
  · cases h
    split
    · exact hp
    · rename_i g e
      exact zH_zip (hm _ _ e) hp
  · exact hm t g h
theorem jn_zH : ∀ (rs : List Row) (m : List Row), (∀ p ∈ rs, zH p.2) → (∀ t g, valT m t = some g → zH g) → ∀ t g, valT (rs.foldl jnS m) t = some g → zH g
  | [], m, _, hm => hm
  | p :: rs, m, h, hm => jn_zH rs (jnS m p) (fun q hq => h q (List.mem_cons_of_mem _ hq)) (jnS_zH hm (h p List.mem_cons_self))
theorem waysF_zH {m : Img} {a : Int} {fs : Facts} {rs : List Row} (h : zH fs) (e : waysF m a fs = some rs) : ∀ p ∈ rs, zH p.2 := by
  unfold waysF at e
  split at e
  · cases e
    exact fun p hp => absurd hp List.not_mem_nil
  · rename_i i hi
    have fi := decode_fit hi
    have a0 := fi.2.1.1
    split at e
    · cases e
      exact fun p hp => absurd hp List.not_mem_nil
    split at e
    · rename_i hb
      cases e
      intro p hp
      have ⟨n1, n2⟩ := of_list (inS_iff.mp hb) (by decide)
      have bb := fi.2.2.2.2.2.1 n1 n2
      refine jn_zH _ [] (fun q hq => ?_) (fun t g z => by cases z) _ _ (jn_mem hp)
      obtain ⟨t, _, h2⟩ := List.mem_flatMap.mp hq
      unfold bwS at h2
      split at h2
      · split at h2
        · exact absurd h2 List.not_mem_nil
        · rename_i e2
          rw [List.mem_singleton.mp h2]
          exact refF_zH h a0 bb.1 e2
      · exact absurd h2 List.not_mem_nil
    split at e
    · cases e
      intro p hp
      unfold memF at hp
      split at hp
      · rw [List.mem_singleton.mp hp]; exact h
      · rw [List.mem_singleton.mp hp]; exact zH_set h a0
    split at e
    · cases e
      intro p hp
      rw [List.mem_singleton.mp hp]; exact zH_set h a0
    split at e
    · split at e
      · cases e
      · cases e
        intro p hp
        obtain ⟨t, _, rfl⟩ := List.mem_map.mp hp
        exact zH_set h a0
    split at e
    · cases e
      intro p hp
      rw [List.mem_singleton.mp hp]; exact h
    split at e
    · cases e
      intro p hp
      rw [List.mem_singleton.mp hp]; exact zH_set h a0
    · cases e
      intro p hp
      rw [List.mem_singleton.mp hp]; exact zH_set h a0
end K23
/-! holding: holds_table -/
namespace K23
open PySem PySem.Spec PyProof.Rows L2
def tabOk (m : Img) (rs : List Row) : Prop := rs.length < 2 ^ 20 ∧ (rs.map (·.1)).Pairwise (· < ·) ∧ ∀ p ∈ rs, placeB m p.1 = true ∧ okT p.2
def entF (m : Img) (rs : List Row) : Bool := if placeB m m.entry = true then (match valT rs m.entry with | none => false | some g => g.all fun f => f.has 0) else true
def wholeF (m : Img) (rs : List Row) : Bool := decide (rs.length = (placesF m).length) && (rs.map (·.1)).all fun t => PyData.eqv (FD ((valT rs t).getD [])) (FD nothing)
def rowC (m : Img) (rs : List Row) (w : Row) : Bool := if placeB m w.1 = true then (match valT rs w.1 with | none => false | some g => fwB w.2 g) else true
def rowCl (m : Img) (rs : List Row) (wh : Bool) (p : Row) : Bool := match waysF m p.1 p.2 with
  | none => wh
  | some ws => ws.all (rowC m rs)
def closedF (m : Img) (rs : List Row) : Bool := entF m rs && rs.all (rowCl m rs (wholeF m rs))
theorem FD_lay (fs : Facts) : lay 3 (FD fs) := lay_tup fun d hd => by
  obtain ⟨f, _, rfl⟩ := List.mem_map.mp hd
  exact factD_lay f
theorem place_find {m : Img} {a : Int} (h : placeB m a = true) : 0 ≤ findS m a 4 := of_decide_eq_true (Bool.and_eq_true_iff.mp (Bool.and_eq_true_iff.mp h).2).1
theorem putT_new {β : Type} {l : List (Int × β)} {k : Int} {v : β} (h : hasT l k = false) : putT l k v = l ++ [(k, v)] := by
  unfold putT
  rw [if_neg (by rw [h]; decide)]
theorem not_has {rs l r : List Row} {p : Row} (h : (rs.map (·.1)).Pairwise (· < ·)) (e : rs = l ++ p :: r) : hasT l p.1 = false := by
  cases hh : hasT l p.1 with
  | false => rfl
  | true =>
    have hm := has_mem.mp hh
    rw [e, List.map_append, List.map_cons] at h
    have := (List.pairwise_append.mp h).2.2 p.1 hm p.1 List.mem_cons_self
    omega
section
variable {Z : Zx} [W : W0 Z]
abbrev cHolds : Ct := fun xs S R => ∃ (m : Img) (d : PyData), xs = [.d m.D, .d d] ∧ m.ok ∧ tame 50 d ∧ ((isTableD m d = false ∧ R (.d (.bool false)) S) ∨ ∃ rs, d = tabD rs ∧ isTableD m d = true ∧ tabOk m rs ∧ R (.d (.bool (closedF m rs))) S)
instance ok_holds_table : HasFn Z "holds_table" ["image", "table"] 8 cHolds := fn_intro sc_holds_table nm_holds_table (fun _ _ _ _ _ _ us hl => match us, hl with | [_, _], _ => rfl) (by tm_at "ctl") fun X B xs S R hc => by
  obtain ⟨m, d, rfl, hm, hd, hc⟩ := hc
  rcases hc with ⟨h, hR⟩ | ⟨rs, rfl, h, ⟨hn, hasc, hok⟩, hR⟩
  · refine sws_ifT (x := !false) (tv_not (tv_val (EV.is (ev_call (by tm_at "av") ⟨m, d, rfl, hm, hd, rfl, rfl⟩) (by rw [h])))) rfl ?_
    tm_at "ret"
  refine sws_ifN (x := !true) (tv_not (tv_val (EV.is (ev_call (by tm_at "av") ⟨m, _, rfl, hm, hd, rfl, rfl⟩) (by rw [h])))) rfl ?_
  have hz : rs.length < sizeLine := Nat.lt_trans hn (by decide)
  refine sws_newD fun q hq => ?_
  refine sws_cons (sw_forT (D := rowD) (ts := rs) (iw_tup (ev_var rfl))
    (fun r δ' S2 => ∃ (l : List Row) (u v : Option SV), rs = l ++ r ∧ δ' = [some (.d m.D), some (.d (tabD rs)), some (.r q), u, v, none, none, none, none, none] ∧ S2 = supd S q (.dct (kvT fdS l)))
    ⟨[], none, none, rfl, rfl, rfl⟩ (fun _ _ _ _ => trivial) ?_ ?_)
  · rintro ⟨t, fs⟩ r δ' S2 ⟨l, u, v, e1, rfl, rfl⟩
    refine gw_tup (gws_cons (gws_cons (gws_nil ?_)))
    refine sws_dputV (kk := ki t) (by tm_at "ev") (by tm_at "ev") (by tm_at "ev") supd_same ?_ (sws_nil ⟨l ++ [(t, fs)], _, _, by rw [e1]; simp, rfl, ?_⟩)
    · unfold kvT
      rw [List.length_map]
      have : l.length < rs.length := by rw [e1, List.length_append, List.length_cons]; omega
      omega
    · rw [supd_supd]
      refine (congrArg (fun z => supd S q (.dct z)) (put_kv (D := fdS))).trans ?_
      rw [putT_new (not_has hasc e1)]
  rintro δ' S2 ⟨l, u, v, e1, rfl, rfl⟩
  rw [List.append_nil] at e1
  subst e1
  have hle : SLe S (supd S q (.dct (kvT fdS rs))) := (SLe.refl S).new hq
  have hq2 : (supd S q (.dct (kvT fdS rs))) q = some (.dct (kvT fdS rs)) := supd_same
  have vk := fun t => val_kv (D := fdS) (m := rs) (k := t)
  unfold closedF at hR
  refine sws_cons (SW.mono (E := { nx := fun δ' S' => entF m rs = true ∧ δ' = [some (.d m.D), some (.d (tabD rs)), some (.r q), u, v, none, none, none, none, none] ∧ S' = supd S q (.dct (kvT fdS rs)), rt := R, bk := fun _ _ => False, ct := fun _ _ => False }) ?st ?nx (fun _ _ h => h) (fun _ _ h => h.elim) fun _ _ h => h.elim)
  case st =>
    unfold entF at hR ⊢
    refine' sw_if (x := placeB m m.entry) ?a1 (fun h => ?b1) fun h => ?c1
    case a1 => exact tv_val (ev_call (av_cons (by tm_at "ev") (av_cons (by tm_at "ev") av_nil)) ⟨m, m.entry, rfl, hm, rfl, rfl⟩)
    case c1 =>
      rw [if_neg (by rw [h]; decide)]
      exact sws_nil ⟨rfl, rfl, rfl⟩
    rw [if_pos h] at hR ⊢
    have vkt := vk m.entry
    cases hv : valT rs m.entry with
    | none =>
      rw [hv] at vkt hR
      refine sws_ifT (x := true || false) (tv_w (wv_or (TV.is (tv_cmp (cv_dnotin (kk := ki m.entry) (by tm_at "ev") (by tm_at "ev") hq2)) (by rw [vkt]; rfl)) fun h => by cases h)) rfl ?_
      exact sws_sub hle (by tm_at "ret")
    | some g =>
      rw [hv] at vkt hR
      dsimp only at hR ⊢
      have hg := (hok _ (valT_mem hv)).2
      refine' sws_if2 (x := false || !g.all fun f => f.has 0) ?a2 (fun h => ?b2) fun h => ?c2
      case a2 => exact tv_w (wv_or (TV.is (tv_cmp (cv_dnotin (kk := ki m.entry) (by tm_at "ev") (by tm_at "ev") hq2)) (by rw [vkt]; rfl)) fun _ => wv_or1 (tv_not (tv_val (ev_allT (P := fun f : Fact => f.has 0) (ts := g) (ev_lcM (D := Fact.D) (F := fun f => .bool (f.has 0)) [("fact", 9)] [false, false, false, false, false, false, false, false, false, true] [false, false, false, false, false, false, false, false, false, true] ["allows"] (by decide +kernel) (by decide +kernel) (by decide) (iw_tup (ev_dget (kk := ki m.entry) (by tm_at "ev") (by tm_at "ev") hq2 vkt)) (by rw [hg.1]; decide) fun X1 _ t ht => by tm_at "ev")))))
      case b2 =>
        have h : (g.all fun f => f.has 0) = false := by
          rw [Bool.false_or] at h
          cases hx : g.all fun f => f.has 0 with
          | false => rfl
          | true => rw [hx] at h; cases h
        rw [h] at hR
        exact sws_sub hle (by tm_at "ret")
      have h : (g.all fun f => f.has 0) = true := by
        rw [Bool.false_or] at h
        cases hx : g.all fun f => f.has 0 with
        | true => rfl
        | false => rw [hx] at h; cases h
      exact sws_nil ⟨h, rfl, rfl⟩
  rintro δ' S' ⟨he, rfl, rfl⟩
  rw [he, Bool.true_and] at hR
  have pl := places_len m hm
  refine sws_setV (v := .d (.bool (wholeF m rs))) (ev_andV (x := decide (rs.length = (placesF m).length)) (EV.is (ev_cmp (cv_eqI (ev_lenD (by tm_at "ev") hq2) (ev_lenL (ev_call (by tm_at "av") ⟨m, rfl, hm, rfl, rfl⟩)))) (by rw [List.length_map]; unfold kvT; rw [List.length_map]; exact congrArg (fun z => SV.d (.bool z)) (decide_eq_decide.mpr (by omega)))) fun _ => ev_one (ev_allT (P := fun t => PyData.eqv (FD ((valT rs t).getD [])) (FD nothing)) (ts := rs.map (·.1)) (ev_lcD (D := fdS) (m := rs) [("address", 3)] [false, false, true, true, false, false, false, false, false, false] [false, false, false, true, false, false, false, false, false, false] ["NOTHING"] (by decide +kernel) (by decide +kernel) (by decide) (by tm_at "ev") (fun o => by tm_at "ev") hq2 hz fun o X1 _ t ht => ?_))) ?_
  · obtain ⟨g, hg⟩ := Option.isSome_iff_exists.mp (has_mem.mpr ht)
    have vkt := vk t
    rw [hg] at vkt
    refine EV.is (ev_cmp (cv_eq (ev_dgetL (kk := ki t) (by tm_at "ev") (by tm_at "ev") supd_same vkt) (ev_cst (d := FD nothing)) (lay_shp (FD_lay g) (by decide)) (lay_shp (FD_lay nothing) (by decide)))) ?_
    rw [hg]; rfl
  generalize hwh : wholeF m rs = wh at *
  refine sws_cons (sw_forT (D := rowD) (ts := rs) (iw_tup (ev_var rfl))
    (fun r δ' S2 => ∃ (l : List Row) (u v x y z : Option SV), rs = l ++ r ∧ l.all (rowCl m rs wh) = true ∧ δ' = [some (.d m.D), some (.d (tabD rs)), some (.r q), u, v, some (.d (.bool wh)), x, y, z, none] ∧ S2 = supd S q (.dct (kvT fdS rs)))
    ⟨[], u, v, none, none, none, rfl, rfl, rfl, rfl⟩ (fun _ _ _ _ => trivial) ?_ ?_)
  · rintro ⟨t, fs⟩ r δ' S2 ⟨l, u, v, x, y, z, e1, e2, rfl, rfl⟩
    have hp := hok (t, fs) (by rw [e1]; simp)
    have fin : rowCl m rs wh (t, fs) = false → R (.d (.bool false)) S := fun h => by
      have e : rs.all (rowCl m rs wh) = false := List.all_eq_false.mpr ⟨(t, fs), by rw [e1]; simp, by rw [h]; decide⟩
      rw [e] at hR
      exact hR
    have nxt : rowCl m rs wh (t, fs) = true → (l ++ [(t, fs)]).all (rowCl m rs wh) = true := fun h => by rw [List.all_append, e2, List.all_cons, h]; rfl
    have e3 : rs = (l ++ [(t, fs)]) ++ r := by rw [e1]; simp
    refine gw_tup (gws_cons (gws_cons (gws_nil ?_)))
    refine sws_setV (ev_call (by tm_at "av") ⟨m, t, fs, rfl, hm, place_find hp.1, hp.2, rfl, rfl⟩) ?_
    cases hw : waysF m t fs with
    | none =>
      have e4 : rowCl m rs wh (t, fs) = wh := by unfold rowCl; dsimp only; rw [hw]
      rw [e4] at fin nxt
      refine sws_ifT (tv_cmp (cv_isN (x := PyData.none) (ev_var rfl))) rfl ?_
      refine' sws_if2 (x := !wh) ?a3 (fun h => ?b3) fun h => ?c3
      case a3 => tm_at "tv"
      case b3 =>
        have hR := fin (by simpa using h)
        exact sws_sub hle (by tm_at "ret")
      exact sws_nil (sws_nil ⟨_, _, _, _, _, _, e3, nxt (by simpa using h), rfl, rfl⟩)
    | some ws =>
      have e4 : rowCl m rs wh (t, fs) = ws.all (rowC m rs) := by unfold rowCl; dsimp only; rw [hw]
      rw [e4] at fin nxt
      have hws := waysF_ok hm hp.2 hw
      refine sws_ifF (tv_cmp (cv_isN (x := rowsD ws) (ev_var rfl))) rfl ?_
      refine sws_one (sw_forT (D := rowD) (ts := ws) (iw_list (ev_var rfl))
        (fun r2 δ' S2 => ∃ (l2 : List Row) (y z : Option SV), ws = l2 ++ r2 ∧ l2.all (rowC m rs) = true ∧ δ' = [some (.d m.D), some (.d (tabD rs)), some (.r q), some (.d (.int t)), some (.d (FD fs)), some (.d (.bool wh)), some (.d (rowsD ws)), y, z, none] ∧ S2 = supd S q (.dct (kvT fdS rs)))
        ⟨[], y, z, rfl, rfl, rfl, rfl⟩ (fun _ _ _ _ => trivial) ?_ ?_)
      · rintro ⟨tg, told⟩ r2 δ' S2 ⟨l2, y, z, f1, f2, rfl, rfl⟩
        have htold := hws (tg, told) (by rw [f1]; simp)
        have fin2 : rowC m rs (tg, told) = false → R (.d (.bool false)) S := fun h => fin (by rw [f1, List.all_append, List.all_cons, h, Bool.false_and, Bool.and_false])
        have nxt2 : rowC m rs (tg, told) = true → (l2 ++ [(tg, told)]).all (rowC m rs) = true := fun h => by rw [List.all_append, f2, List.all_cons, h]; rfl
        have f3 : ws = (l2 ++ [(tg, told)]) ++ r2 := by rw [f1]; simp
        unfold rowC at fin2 nxt2
        dsimp only at fin2 nxt2
        refine gw_tup (gws_cons (gws_cons (gws_nil ?_)))
        refine' sws_cons (sw_if (x := placeB m tg) ?a5 (fun h => ?b5) fun h => ?c5)
        case a5 => exact tv_val (ev_call (by tm_at "av") ⟨m, tg, rfl, hm, rfl, rfl⟩)
        case c5 =>
          rw [if_neg (by rw [h]; decide)] at nxt2
          exact sws_nil (sws_nil ⟨_, _, _, f3, nxt2 rfl, rfl, rfl⟩)
        rw [if_pos h] at fin2 nxt2
        have vkt := vk tg
        cases hv : valT rs tg with
        | none =>
          rw [hv] at vkt fin2
          have hR := fin2 rfl
          refine sws_ifT (x := true || false) (tv_w (wv_or (TV.is (tv_cmp (cv_dnotin (kk := ki tg) (by tm_at "ev") (by tm_at "ev") supd_same)) (by rw [vkt]; rfl)) fun h => by cases h)) rfl ?_
          exact sws_sub hle (by tm_at "ret")
        | some g =>
          rw [hv] at vkt fin2 nxt2
          dsimp only at fin2 nxt2
          have hg := (hok _ (valT_mem hv)).2
          refine' sws_if2 (x := false || !fwB told g) ?a6 (fun h => ?b6) fun h => ?c6
          case a6 => exact tv_w (wv_or (TV.is (tv_cmp (cv_dnotin (kk := ki tg) (by tm_at "ev") (by tm_at "ev") supd_same)) (by rw [vkt]; rfl)) fun _ => wv_or1 (tv_not (tv_val (ev_call (av_cons (by tm_at "ev") (av_cons (ev_dget (kk := ki tg) (by tm_at "ev") (by tm_at "ev") supd_same vkt) av_nil)) ⟨told, g, rfl, htold, hg, rfl, rfl⟩))))
          case b6 =>
            have hR := fin2 (by simpa using h)
            exact sws_sub hle (by tm_at "ret")
          exact sws_nil (sws_nil ⟨_, _, _, f3, nxt2 (by simpa using h), rfl, rfl⟩)
      · rintro δ' S2 ⟨l2, y, z, f1, f2, rfl, rfl⟩
        rw [List.append_nil] at f1
        exact sws_nil ⟨_, _, _, _, _, _, e3, nxt (by rw [f1]; exact f2), rfl, rfl⟩
  · rintro δ' S2 ⟨l, u, v, x, y, z, e1, e2, rfl, rfl⟩
    rw [List.append_nil] at e1
    subst e1
    rw [e2] at hR
    exact sws_sub hle (by tm_at "ret")
end
end K23
/-! plain law 3: within is inclusion, join an upper bound -/
namespace K23
open PySem PySem.Spec PyProof.Rows L2
def le (a b : Fact) : Prop := ∀ w, okW w → a.has w = true → b.has w = true
theorem le.refl (a : Fact) : le a a := fun _ _ h => h
theorem le.trans {a b c : Fact} (h : le a b) (h2 : le b c) : le a c := fun w hw z => h2 w hw (h w hw z)
theorem has_words {ws : List Int} {w : Int} : (Fact.words ws).has w = true ↔ w ∈ ws := by
  show (ws.any fun v => v == w) = true ↔ _
  rw [List.any_eq_true]
  constructor
  · rintro ⟨v, hv, e⟩
    rw [← eq_of_beq e]; exact hv
  · intro h
    exact ⟨w, h, beq_self_eq_true w⟩
theorem has_range {lo hi w : Int} : (Fact.range lo hi).has w = true ↔ lo ≤ w ∧ w ≤ hi := by
  show (decide (lo ≤ w) && decide (w ≤ hi)) = true ↔ _
  rw [Bool.and_eq_true_iff, decide_eq_true_iff, decide_eq_true_iff]
theorem nodup_len : ∀ (l D : List Int), l.Nodup → (∀ x ∈ l, x ∈ D) → l.length ≤ D.length
  | [], _, _, _ => Nat.zero_le _
  | x :: l, D, hn, h => by
    obtain ⟨h1, h2⟩ := List.nodup_cons.mp hn
    have hx := h x List.mem_cons_self
    have k := nodup_len l (D.erase x) h2 fun y hy => (List.mem_erase_of_ne (fun e => h1 (by rw [← e]; exact hy))).mpr (h y (List.mem_cons_of_mem _ hy))
    rw [List.length_erase_of_mem hx] at k
    have : 0 < D.length := List.length_pos_of_mem hx
    rw [List.length_cons]
    omega
theorem has_bd {a : Fact} (ha : a.ok) {w : Int} (hw : okW w) (h : a.has w = true) : a.lo ≤ w ∧ w ≤ a.hi := by
  cases a with
  | top => exact hw
  | words ws => exact asc_ends ha.1.1 w (has_words.mp h)
  | range lo hi => exact has_range.mp h
theorem lo_has {a : Fact} (ha : a.ok) (nw : a.isRow = false) {w : Int} (hw : okW w) : a.has w = true ↔ a.lo ≤ w ∧ w ≤ a.hi := by
  cases a with
  | top => exact ⟨fun _ => hw, fun _ => rfl⟩
  | words ws => cases nw
  | range lo hi => exact has_range
theorem win_iff {a b : Fact} (ha : a.ok) (hb : b.okE) : win a b = true ↔ le a b := by
  have ⟨l1, l2, l3⟩ := ok_lo ha
  cases b with
  | top => exact ⟨fun _ _ _ _ => rfl, fun _ => rfl⟩
  | words vs =>
    cases hr : a.isRow with
    | true =>
      cases a with
      | words ws =>
        show (ws.all (Fact.words vs).has) = true ↔ _
        rw [List.all_eq_true]
        exact ⟨fun h w _ hh => h w (has_words.mp hh), fun h w hw => h w (ha.1.2.1 w hw) (has_words.mpr hw)⟩
      | _ => cases hr
    | false =>
      have e : win a (.words vs) = (decide (a.hi - a.lo < 16) && (List.range (a.hi + 1 - a.lo).toNat).all fun i => vs.any fun v => v == a.lo + (i : Int)) := by
        cases a <;> first | rfl | cases hr
      rw [e, Bool.and_eq_true_iff, decide_eq_true_iff, List.all_eq_true]
      constructor
      · rintro ⟨h1, h2⟩ w hw hh
        have k := (lo_has ha hr hw).mp hh
        have z := h2 (w - a.lo).toNat (List.mem_range.mpr (by omega))
        have e2 : a.lo + (((w - a.lo).toNat : Nat) : Int) = w := by omega
        rw [e2] at z
        exact z
      · intro h
        have key : ∀ i : Nat, i < (a.hi + 1 - a.lo).toNat → a.lo + (i : Int) ∈ vs := fun i hi => by
          have hw : okW (a.lo + (i : Int)) := ⟨by omega, by omega⟩
          exact has_words.mp (h _ hw ((lo_has ha hr hw).mpr ⟨by omega, by omega⟩))
        have nd : ((List.range (a.hi + 1 - a.lo).toNat).map fun i : Nat => a.lo + (i : Int)).Nodup := by
          refine List.pairwise_map.mpr (List.Pairwise.imp (fun {i j} hij e => ?_) (List.nodup_range (n := (a.hi + 1 - a.lo).toNat)))
          exact hij (by omega)
        have k := nodup_len _ vs nd fun x hx => by
          obtain ⟨i, hi, rfl⟩ := List.mem_map.mp hx
          exact key i (List.mem_range.mp hi)
        rw [List.length_map, List.length_range] at k
        have := hb.2.2
        exact ⟨by omega, fun i hi => has_words.mpr (key i (List.mem_range.mp hi))⟩
  | range lo hi =>
    cases hr : a.isRow with
    | true =>
      cases a with
      | words ws =>
        show (ws.all (Fact.range lo hi).has) = true ↔ _
        rw [List.all_eq_true]
        exact ⟨fun h w _ hh => h w (has_words.mp hh), fun h w hw => h w (ha.1.2.1 w hw) (has_words.mpr hw)⟩
      | _ => cases hr
    | false =>
      have e : win a (.range lo hi) = (decide (lo ≤ a.lo) && decide (a.hi ≤ hi)) := by
        cases a <;> first | rfl | cases hr
      rw [e, Bool.and_eq_true_iff, decide_eq_true_iff, decide_eq_true_iff]
      constructor
      · rintro ⟨h1, h2⟩ w hw hh
        have k := (lo_has ha hr hw).mp hh
        exact has_range.mpr ⟨by omega, by omega⟩
      · intro h
        have w1 : okW a.lo := ⟨l1, by omega⟩
        have w2 : okW a.hi := ⟨by omega, l3⟩
        exact ⟨(has_range.mp (h _ w1 ((lo_has ha hr w1).mpr ⟨Int.le_refl _, l2⟩))).1, (has_range.mp (h _ w2 ((lo_has ha hr w2).mpr ⟨l2, Int.le_refl _⟩))).2⟩
theorem ofB_has {lo hi w : Int} (h1 : lo ≤ w) (h2 : w ≤ hi) : (ofB lo hi).has w = true := by
  unfold ofB
  rw [if_neg (by omega)]
  split
  · exact has_words.mpr (List.mem_singleton.mpr (by omega))
  · split
    · rfl
    · exact has_range.mpr ⟨h1, h2⟩
theorem ofWs_has {ns : List Int} {w : Int} (h : w ∈ ns) : (ofWs ns).has w = true := by
  have hm : w ∈ sortD ns := sortD_mem.mpr h
  unfold ofWs
  split
  · exact has_words.mpr hm
  · have k := asc_ends sortD_asc w hm
    exact ofB_has k.1 k.2
theorem join_has {a b : Fact} (ha : a.ok) (hb : b.ok) {w : Int} (hw : okW w) (h : a.has w = true ∨ b.has w = true) : (joinF a b).has w = true := by
  have rest : (ofB (mnI a.lo b.lo) (mxI a.hi b.hi)).has w = true := by
    have k : (a.lo ≤ w ∧ w ≤ a.hi) ∨ (b.lo ≤ w ∧ w ≤ b.hi) := h.elim (fun z => .inl (has_bd ha hw z)) fun z => .inr (has_bd hb hw z)
    refine ofB_has ?_ ?_
    · show (if b.lo < a.lo then b.lo else a.lo) ≤ w
      split <;> omega
    · show w ≤ if b.hi > a.hi then b.hi else a.hi
      split <;> omega
  cases a <;> cases b <;> first | exact rest | skip
  refine ofWs_has (List.mem_append.mpr ?_)
  exact h.elim (fun z => .inl (has_words.mp z)) fun z => .inr (has_words.mp z)
/-! ### rows of facts -/
def leF (fs gs : Facts) : Prop := ∀ (i : Nat) f g, fs[i]? = some f → gs[i]? = some g → le f g
theorem leF.refl (fs : Facts) : leF fs fs := fun i f g h1 h2 => by rw [h1] at h2; cases h2; exact le.refl f
theorem leF.trans {fs gs hs : Facts} (hl : fs.length = gs.length) (h : leF fs gs) (h2 : leF gs hs) : leF fs hs := fun i f k e1 e2 => by
  have hi : i < gs.length := by rw [← hl]; exact (List.getElem?_eq_some_iff.mp e1).1
  exact (h i f _ e1 (List.getElem?_eq_getElem hi)).trans (h2 i _ k (List.getElem?_eq_getElem hi) e2)
theorem fwB_iff {fs gs : Facts} (hf : okT fs) (hg : okT gs) : fwB fs gs = true ↔ leF fs gs := by
  unfold fwB
  rw [List.all_eq_true]
  constructor
  · intro h i f g e1 e2
    have hm : (f, g) ∈ List.zip fs gs := List.mem_of_getElem? (i := i) (by rw [List.getElem?_zip_eq_some]; exact ⟨e1, e2⟩)
    exact (win_iff (hf.2 f (List.mem_of_getElem? e1)) (hg.2 g (List.mem_of_getElem? e2)).1).mp (h _ hm)
  · rintro h ⟨f, g⟩ hm
    obtain ⟨i, hi⟩ := List.mem_iff_getElem?.mp hm
    rw [List.getElem?_zip_eq_some] at hi
    exact (win_iff (hf.2 f (List.mem_of_getElem? hi.1)) (hg.2 g (List.mem_of_getElem? hi.2)).1).mpr (h i f g hi.1 hi.2)
theorem zip_le {fs gs : Facts} (hf : okT fs) (hg : okT gs) : leF fs (List.zipWith joinF fs gs) ∧ leF gs (List.zipWith joinF fs gs) := by
  constructor
  · intro i f g e1 e2
    rw [List.getElem?_zipWith, e1] at e2
    cases e3 : gs[i]? with
    | none => rw [e3] at e2; cases e2
    | some g' =>
      rw [e3] at e2; cases e2
      exact fun w hw h => join_has (hf.2 f (List.mem_of_getElem? e1)) (hg.2 g' (List.mem_of_getElem? e3)) hw (.inl h)
  · intro i f g e1 e2
    rw [List.getElem?_zipWith, e1] at e2
    cases e3 : fs[i]? with
    | none => rw [e3] at e2; cases e2
    | some f' =>
      rw [e3] at e2; cases e2
      exact fun w hw h => join_has (hf.2 f' (List.mem_of_getElem? e3)) (hg.2 f (List.mem_of_getElem? e1)) hw (.inr h)
/-! ### equal data -/
theorem mapint_inj : ∀ {xs ys : List Int}, xs.map PyData.int = ys.map PyData.int → xs = ys
  | [], [], _ => rfl
  | [], _ :: _, h => by cases h
  | _ :: _, [], h => by cases h
  | x :: xs, y :: ys, h => by
    obtain ⟨h1, h2⟩ := List.cons.inj h
    cases h1
    rw [mapint_inj h2]
theorem factD_inj {f g : Fact} (h : f.D = g.D) : f = g := by
  cases f <;> cases g <;> first | rfl | (cases h; done) | skip
  · have h := PyData.tuple.inj h
    obtain ⟨_, h⟩ := List.cons.inj h
    obtain ⟨h, _⟩ := List.cons.inj h
    rw [mapint_inj (PyData.tuple.inj h)]
  · have h := PyData.tuple.inj h
    obtain ⟨_, h⟩ := List.cons.inj h
    obtain ⟨h1, h⟩ := List.cons.inj h
    obtain ⟨h2, _⟩ := List.cons.inj h
    cases h1; cases h2; rfl
theorem mapD_inj : ∀ {fs gs : Facts}, fs.map Fact.D = gs.map Fact.D → fs = gs
  | [], [], _ => rfl
  | [], _ :: _, h => by cases h
  | _ :: _, [], h => by cases h
  | f :: fs, g :: gs, h => by
    obtain ⟨h1, h2⟩ := List.cons.inj h
    rw [factD_inj h1, mapD_inj h2]
theorem factD_noB (f : Fact) : noB f.D = true := by
  cases f with
  | top => rfl
  | words ws =>
    show (true && (noBAll (ws.map PyData.int) && true)) = true
    rw [Bool.true_and, Bool.and_true]
    exact noBAll_iff.mpr fun x hx => by obtain ⟨i, _, rfl⟩ := List.mem_map.mp hx; rfl
  | range lo hi => rfl
theorem FD_noB (fs : Facts) : noB (FD fs) = true := noBAll_iff.mpr fun x hx => by
  obtain ⟨f, _, rfl⟩ := List.mem_map.mp hx
  exact factD_noB f
theorem fact_eqv {f g : Fact} : PyData.eqv f.D g.D = true ↔ f = g := by
  rw [eqv_iff _ _ (factD_noB f) (factD_noB g)]
  exact ⟨factD_inj, fun h => by rw [h]⟩
theorem FD_eqv {fs gs : Facts} : PyData.eqv (FD fs) (FD gs) = true ↔ fs = gs := by
  rw [eqv_iff _ _ (FD_noB fs) (FD_noB gs)]
  exact ⟨fun h => mapD_inj (PyData.tuple.inj h), fun h => by rw [h]⟩
end K23
/-! solve: widened, united -/
namespace K23
open PySem PySem.Spec PyProof.Rows L2
def widT (t : Fact × Fact) : Fact := if PyData.eqv t.1.D t.2.D = true then t.1 else .top
def widF (o n : Facts) : Facts := (List.zip o n).map widT
theorem widF_ok {o n : Facts} (ho : okT o) (hn : okT n) : okT (widF o n) := by
  refine ⟨by unfold widF; rw [List.length_map, List.length_zip, ho.1, hn.1]; rfl, fun f hf => ?_⟩
  obtain ⟨⟨a, b⟩, hm, rfl⟩ := List.mem_map.mp hf
  unfold widT
  split
  · exact ho.2 a (List.of_mem_zip hm).1
  · exact top_ok
theorem widF_le {o n : Facts} : leF n (widF o n) := by
  intro i f g e1 e2
  unfold widF at e2
  rw [List.getElem?_map] at e2
  cases e3 : (List.zip o n)[i]? with
  | none => rw [e3] at e2; cases e2
  | some t =>
    rw [e3] at e2
    cases e2
    obtain ⟨a, b⟩ := t
    have k := List.getElem?_zip_eq_some.mp e3
    rw [k.2] at e1
    cases e1
    show le b (if PyData.eqv a.D b.D = true then a else .top)
    split
    · rename_i h
      rw [fact_eqv.mp h]; exact le.refl _
    · exact fun _ _ _ => rfl
theorem widF_zH {o n : Facts} (ho : zH o) (hn : zH n) : zH (widF o n) := by
  unfold zH widF at *
  rw [List.getElem?_map, show (List.zip o n)[0]? = some (Fact.words [0], Fact.words [0]) from List.getElem?_zip_eq_some.mpr ⟨ho, hn⟩]
  show some (if PyData.eqv (Fact.words [0]).D (Fact.words [0]).D = true then Fact.words [0] else .top) = _
  rw [if_pos (fact_eqv.mpr rfl)]
structure Uni where
  b : Bool
  f : List Row
  t : List (Int × Int)
def uniF (F : List Row) (T : List (Int × Int)) (tg : Int) (fs : Facts) : Uni := match valT F tg with
  | none => ⟨true, putT F tg fs, putT T tg 0⟩
  | some old => if PyData.eqv (FD (List.zipWith joinF old fs)) (FD old) = true then ⟨false, F, T⟩ else
    ⟨true, putT F tg (if 7 ≤ (valT T tg).getD 0 + 1 then widF old (List.zipWith joinF old fs) else List.zipWith joinF old fs), putT T tg ((valT T tg).getD 0 + 1)⟩
theorem supd_self {S : Sto} {a : Addr} {o : MO} (h : S a = some o) : supd S a o = S := by
  funext b
  unfold supd
  split
  · rename_i e; rw [e, h]
  · rfl
theorem supd_comm {S : Sto} {a b : Addr} {o u : MO} (h : a ≠ b) : supd (supd S a o) b u = supd (supd S b u) a o := by
  funext c
  unfold supd
  by_cases h1 : c = b
  · rw [if_pos h1, if_neg (fun z : c = a => h (z.symm.trans h1)), if_pos h1]
  · rw [if_neg h1]
    by_cases h2 : c = a
    · rw [if_pos h2, if_pos h2]
    · rw [if_neg h2, if_neg h2, if_neg h1]
abbrev intS : Int → SV := fun i => .d (.int i)
abbrev blS : Bool → SV := fun i => .d (.bool i)
section
variable {Z : Zx} [W : W0 Z]
abbrev cWid : Ct := fun xs S R => ∃ o n : Facts, xs = [.d (FD o), .d (FD n)] ∧ okT o ∧ okT n ∧ R (.d (FD (widF o n))) S
instance ok_widened : HasFn Z "widened" ["old", "new"] 1 cWid := fn_intro sc_widened nm_widened (fun _ _ _ _ _ _ us hl => match us, hl with | [_, _], _ => rfl) (by tm_at "ctl") fun X B xs S R hc => by
  obtain ⟨o, n, rfl, ho, hn, hR⟩ := hc
  have hz : (List.zip o n).length = 16 := by rw [List.length_zip, ho.1, hn.1]; rfl
  refine sws_newL (xs := []) av_nil (by decide) fun q hq => ?_
  refine sws_cons (sw_forT (D := fun t : Fact × Fact => .tuple [t.1.D, t.2.D]) (ts := List.zip o n) (by rw [← pairD_map]; exact iw_zip (xs := o.map Fact.D) (ys := n.map Fact.D) (by tm_at "ev") (by tm_at "ev"))
    (fun r δ' S2 => ∃ (l : List (Fact × Fact)) (u v : Option SV), List.zip o n = l ++ r ∧ δ' = [some (.d (FD o)), some (.d (FD n)), some (.r q), u, v] ∧ S2 = supd S q (.lst (((l.map widT).map Fact.D).map SV.d)))
    ⟨[], none, none, rfl, rfl, rfl⟩ (fun _ _ _ _ => trivial) ?_ ?_)
  · rintro ⟨a, b⟩ r δ' S2 ⟨l, u, v, e1, rfl, rfl⟩
    have hl : l.length < 16 := by
      have := congrArg List.length e1
      rw [hz, List.length_append, List.length_cons] at this
      omega
    have hlen : (((l.map widT).map Fact.D).map SV.d).length < sizeLine := by
      rw [List.length_map, List.length_map, List.length_map]; unfold sizeLine; omega
    refine gw_tup (gws_cons (gws_cons (gws_nil ?_)))
    refine' sws_cons (sw_if (x := PyData.eqv a.D b.D) ?a1 (fun h => ?b1) fun h => ?c1)
    case a1 => exact tv_cmp (cv_eq (by tm_at "ev") (by tm_at "ev") (lay_shp (factD_lay a) (by decide)) (lay_shp (factD_lay b) (by decide)))
    case b1 =>
      refine sws_app (by tm_at "ev") supd_same (by tm_at "ev") hlen (sws_nil (sws_nil ⟨l ++ [(a, b)], _, _, by rw [e1]; simp, rfl, ?_⟩))
      rw [supd_supd]
      refine congrArg (fun z => supd S q (.lst z)) ?_
      simp only [List.map_append, List.map_cons, List.map_nil]
      unfold widT
      rw [if_pos h]
    · refine sws_app (by tm_at "ev") supd_same (by tm_at "ev") hlen (sws_nil (sws_nil ⟨l ++ [(a, b)], _, _, by rw [e1]; simp, rfl, ?_⟩))
      rw [supd_supd]
      refine congrArg (fun z => supd S q (.lst z)) ?_
      simp only [List.map_append, List.map_cons, List.map_nil]
      conv => rhs; rhs; unfold widT
      rw [if_neg (c := PyData.eqv a.D b.D = true) (by rw [h]; decide)]
      rfl
  · rintro δ' S2 ⟨l, u, v, e1, rfl, rfl⟩
    rw [List.append_nil] at e1
    refine sws_frz (i := 2) (S' := S) rfl supd_same ((SLe.refl S).new hq) hq ?_
    refine sws_one (sw_retE (ev_tupleL (by tm_at "ev")) (by rw [← e1]; rfl) hR)
abbrev cUni : Ct := fun xs S R => ∃ (p q : Addr) (F : List Row) (T : List (Int × Int)) (tg : Int) (fs : Facts), xs = [.r p, .r q, .d (.int tg), .d (FD fs)] ∧ p ≠ q ∧ S p = some (.dct (kvT fdS F)) ∧ S q = some (.dct (kvT intS T)) ∧ okT fs ∧ (∀ t g, valT F t = some g → okT g ∧ hasT T t = true) ∧
  F.length + 1 < sizeLine ∧ T.length + 1 < sizeLine ∧ R (.d (.bool (uniF F T tg fs).b)) (supd (supd S p (.dct (kvT fdS (uniF F T tg fs).f))) q (.dct (kvT intS (uniF F T tg fs).t)))
instance ok_united : HasFn Z "united" ["found", "turns", "target", "facts"] 4 cUni := fn_intro sc_united nm_united (fun _ _ _ _ _ _ us hl => match us, hl with | [_, _, _, _], _ => rfl) (by tm_at "ctl") fun X B xs S R hc => by
  obtain ⟨p, q, F, T, tg, fs, rfl, hne, hp, hq, hfs, hF, hFn, hTn, hR⟩ := hc
  have vk := val_kv (D := fdS) (m := F) (k := tg)
  have vt := val_kv (D := intS) (m := T) (k := tg)
  have lF : (kvT fdS F).length < sizeLine := by unfold kvT; rw [List.length_map]; omega
  have lT : (kvT intS T).length < sizeLine := by unfold kvT; rw [List.length_map]; omega
  unfold uniF at hR
  cases hv : valT F tg with
  | none =>
    rw [hv] at vk hR
    dsimp only at hR
    refine sws_ifT (x := true) (TV.is (tv_cmp (cv_dnotin (kk := ki tg) (by tm_at "ev") (by tm_at "ev") hp)) (by rw [vk]; rfl)) rfl ?_
    refine sws_dputV (kk := ki tg) (by tm_at "ev") (by tm_at "ev") (by tm_at "ev") hp lF ?_
    refine sws_dputV (kk := ki tg) (v := intS 0) (by tm_at "ev") (by tm_at "ev") (by tm_at "ev") (by rw [supd_ne (Ne.symm hne)]; exact hq) lT ?_
    have e1 := put_kv (D := fdS) (m := F) (k := tg) (v := fs)
    have e2 := put_kv (D := intS) (m := T) (k := tg) (v := 0)
    rw [show putS (kvT fdS F) (ki tg) (SV.d (FD fs)) = _ from e1, e2]
    tm_at "ret"
  | some old =>
    rw [hv] at vk hR
    dsimp only at hR
    have ⟨ho, hT⟩ := hF tg old hv
    obtain ⟨n, hn⟩ := Option.isSome_iff_exists.mp hT
    rw [hn] at vt hR
    have hnew := join_okT ho hfs
    refine sws_ifN (x := false) (TV.is (tv_cmp (cv_dnotin (kk := ki tg) (by tm_at "ev") (by tm_at "ev") hp)) (by rw [vk]; rfl)) rfl ?_
    refine sws_setV (v := .d (FD old)) (ev_dget (kk := ki tg) (by tm_at "ev") (by tm_at "ev") hp vk) ?_
    refine sws_setV (v := .d (FD (List.zipWith joinF old fs))) (ev_tupleL (EV.is (ev_lc2 (ts := List.zip old fs) (D1 := fun t : Fact × Fact => t.1.D) (D2 := fun t : Fact × Fact => t.2.D) (F := fun t : Fact × Fact => (joinF t.1 t.2).D) [("a", 6), ("b", 7)] [false, false, false, false, false, false, true, true] [false, false, false, false, false, false, true, true] ["join_facts"] (by decide +kernel) (by decide +kernel) (by decide) (by decide) ?_ ?_ fun X1 _ z hz => ?_) (by rw [zip_join]))) ?_
    · rw [← pairD_map]
      exact iw_zip (xs := old.map Fact.D) (ys := fs.map Fact.D) (by tm_at "ev") (by tm_at "ev")
    · rw [List.length_zip, ho.1, hfs.1]; decide
    · obtain ⟨z1, z2⟩ := z
      have h12 := List.of_mem_zip hz
      exact ev_call (by tm_at "av") ⟨z1, z2, rfl, ho.2 z1 h12.1, hfs.2 z2 h12.2, rfl, rfl⟩
    generalize List.zipWith joinF old fs = new at *
    refine' sws_if2 (x := PyData.eqv (FD new) (FD old)) ?a1 (fun h => ?b1) fun h => ?c1
    case a1 => exact tv_cmp (cv_eq (by tm_at "ev") (by tm_at "ev") (lay_shp (FD_lay new) (by decide)) (lay_shp (FD_lay old) (by decide)))
    case b1 =>
      rw [if_pos h] at hR
      dsimp only at hR
      rw [supd_self hp, supd_self hq] at hR
      tm_at "ret"
    rw [if_neg (by rw [h]; decide)] at hR
    dsimp only at hR
    have hn1 : (some n).getD 0 + 1 = n + 1 := rfl
    rw [hn1] at hR
    refine sws_dputV (kk := ki tg) (v := intS (n + 1)) (ev_add (ev_dget (kk := ki tg) (v := intS n) (by tm_at "ev") (by tm_at "ev") hq vt) ev_int) (by tm_at "ev") (by tm_at "ev") hq lT ?_
    have e2 := put_kv (D := intS) (m := T) (k := tg) (v := n + 1)
    rw [e2]
    have hq2 : (supd S q (.dct (kvT intS (putT T tg (n + 1))))) q = some (.dct (kvT intS (putT T tg (n + 1)))) := supd_same
    have hp2 : (supd S q (.dct (kvT intS (putT T tg (n + 1))))) p = some (.dct (kvT fdS F)) := by rw [supd_ne hne]; exact hp
    have vt2 := val_kv (D := intS) (m := putT T tg (n + 1)) (k := tg)
    rw [valT_put, if_pos rfl] at vt2
    refine sws_cons (SW.mono (E := { nx := fun δ' S' => δ' = [some (.r p), some (.r q), some (.d (.int tg)), some (.d (FD fs)), some (.d (FD old)), some (.d (FD (if 7 ≤ n + 1 then widF old new else new))), none, none] ∧ S' = supd S q (.dct (kvT intS (putT T tg (n + 1)))), rt := R, bk := fun _ _ => False, ct := fun _ _ => False }) ?st ?nx (fun _ _ h => h) (fun _ _ h => h.elim) fun _ _ h => h.elim)
    case st =>
      refine sw_if (x := decide (7 ≤ n + 1)) (tv_cmp (cv_ge (ev_dget (kk := ki tg) (v := intS (n + 1)) (by tm_at "ev") (by tm_at "ev") hq2 vt2) (by tm_at "ev"))) (fun h => ?_) fun h => ?_
      · rw [if_pos (of_decide_eq_true h)]
        exact sws_setV (ev_call (by tm_at "av") ⟨old, new, rfl, ho, hnew, rfl, rfl⟩) (sws_nil ⟨rfl, rfl⟩)
      · rw [if_neg (of_decide_eq_false h)]
        exact sws_nil ⟨rfl, rfl⟩
    rintro δ' S' ⟨rfl, rfl⟩
    generalize (if 7 ≤ n + 1 then widF old new else new) = nw at *
    refine sws_dputV (kk := ki tg) (v := fdS nw) (by tm_at "ev") (by tm_at "ev") (by tm_at "ev") hp2 lF ?_
    rw [put_kv (D := fdS), supd_comm (Ne.symm hne)]
    tm_at "ret"
end
end K23
/-! plain law 4: the invariant of solve -/
namespace K23
open PySem PySem.Spec PyProof.Rows L2
def start : Facts := List.replicate 16 (.words [0])
def closedAt (m : Img) (F : List Row) (a : Int) : Prop := ∃ g ws, valT F a = some g ∧ waysF m a g = some ws ∧ ∀ w ∈ ws, placeB m w.1 = true → ∃ g2, valT F w.1 = some g2 ∧ leF w.2 g2
structure Inv0 (m : Img) (F : List Row) (T : List (Int × Int)) (Wt : List (Int × Bool)) (Q : List Int) (k : Nat) : Prop where
  nd : (F.map (·.1)).Nodup
  good : ∀ t g, valT F t = some g → okT g ∧ zH g ∧ placeB m t = true ∧ hasT T t = true
  ent : ∃ g, valT F m.entry = some g ∧ leF start g
  wt : ∀ t, valT Wt t = some true → t ∈ Q.drop k
  qk : ∀ t ∈ Q, hasT F t = true
  kQ : k ≤ Q.length
structure InvO (m : Img) (F : List Row) (T : List (Int × Int)) (Wt : List (Int × Bool)) (Q : List Int) (k : Nat) : Prop extends Inv0 m F T Wt Q k where
  cl : ∀ t, hasT F t = true → t ∈ Q.drop k ∨ closedAt m F t
structure InvI (m : Img) (F : List Row) (T : List (Int × Int)) (Wt : List (Int × Bool)) (Q : List Int) (k : Nat) (a : Int) (fa : Facts) (l : List Row) : Prop extends Inv0 m F T Wt Q k where
  cl : ∀ t, hasT F t = true → t ≠ a → t ∈ Q.drop k ∨ closedAt m F t
  cur : a ∈ Q.drop k ∨ (valT F a = some fa ∧ ∀ w ∈ l, placeB m w.1 = true → ∃ g2, valT F w.1 = some g2 ∧ leF w.2 g2)
def szs (F : List Row) (T : List (Int × Int)) (Wt : List (Int × Bool)) (Q : List Int) (n : Nat) : Prop := F.length ≤ n ∧ T.length ≤ n ∧ Wt.length ≤ n ∧ Q.length ≤ n
theorem has_some {β : Type} {m : List (Int × β)} {k : Int} : hasT m k = true ↔ ∃ v, valT m k = some v := Option.isSome_iff_exists
theorem has_put {β : Type} {m : List (Int × β)} {k j : Int} {v : β} : hasT (putT m k v) j = true ↔ j = k ∨ hasT m j = true := by
  unfold hasT
  rw [valT_put]
  by_cases h : j = k
  · rw [if_pos h]; simp [h]
  · rw [if_neg h]; simp [h]
theorem put_nd {β : Type} {m : List (Int × β)} {k : Int} {v : β} (h : (m.map (·.1)).Nodup) : ((putT m k v).map (·.1)).Nodup := by
  rw [put_keys]
  split
  · exact h
  · rename_i hn
    refine List.nodup_append.mpr ⟨h, by simp, fun x hx y hy e => ?_⟩
    rw [List.mem_singleton.mp hy] at e
    exact hn (has_mem.mpr (e ▸ hx))
theorem put_le {β : Type} {m : List (Int × β)} {k : Int} {v : β} : (putT m k v).length ≤ m.length + 1 := by
  rw [put_len]; split <;> omega
/-- what united does to the facts found -/
structure Grow (F F' : List Row) (tg : Int) (fs : Facts) : Prop where
  old : ∀ t g, valT F t = some g → ∃ g', valT F' t = some g' ∧ leF g g' ∧ g'.length = g.length
  same : ∀ t, t ≠ tg → valT F' t = valT F t
  new : ∃ g2, valT F' tg = some g2 ∧ leF fs g2
theorem uni_grow {m : Img} {F : List Row} {T : List (Int × Int)} {tg : Int} {fs : Facts} (hg : ∀ t g, valT F t = some g → okT g ∧ zH g ∧ placeB m t = true ∧ hasT T t = true) (hfs : okT fs) (hz : zH fs) (hp : placeB m tg = true) :
    Grow F (uniF F T tg fs).f tg fs ∧ (∀ t g, valT (uniF F T tg fs).f t = some g → okT g ∧ zH g ∧ placeB m t = true ∧ hasT (uniF F T tg fs).t t = true) ∧ ((uniF F T tg fs).b = false → (uniF F T tg fs).f = F) ∧
      ((F.map (·.1)).Nodup → ((uniF F T tg fs).f.map (·.1)).Nodup) ∧ (uniF F T tg fs).f.length ≤ F.length + 1 ∧ (uniF F T tg fs).t.length ≤ T.length + 1 := by
  have upd : ∀ (nw : Facts) (n : Int), okT nw → zH nw → leF fs nw → (∀ o, valT F tg = some o → leF o nw) → Grow F (putT F tg nw) tg fs ∧ (∀ t g, valT (putT F tg nw) t = some g → okT g ∧ zH g ∧ placeB m t = true ∧ hasT (putT T tg n) t = true) := fun nw n h1 h2 h3 h4 => by
    refine ⟨⟨fun t g e => ?_, fun t ht => by rw [valT_put, if_neg ht], nw, by rw [valT_put, if_pos rfl], h3⟩, fun t g e => ?_⟩
    · rw [valT_put]
      by_cases ht : t = tg
      · subst ht
        rw [if_pos rfl]
        exact ⟨nw, rfl, h4 g e, by rw [h1.1, (hg t g e).1.1]⟩
      · rw [if_neg ht]
        exact ⟨g, e, leF.refl g, rfl⟩
    · rw [valT_put] at e
      by_cases ht : t = tg
      · subst ht
        rw [if_pos rfl] at e
        cases e
        exact ⟨h1, h2, hp, has_put.mpr (.inl rfl)⟩
      · rw [if_neg ht] at e
        have k := hg t g e
        exact ⟨k.1, k.2.1, k.2.2.1, has_put.mpr (.inr k.2.2.2)⟩
  unfold uniF
  cases hv : valT F tg with
  | none =>
    dsimp only
    have k := upd fs 0 hfs hz (leF.refl fs) (fun o e => by rw [hv] at e; cases e)
    exact ⟨k.1, k.2, (fun z => by cases z), put_nd, put_le, put_le⟩
  | some o =>
    dsimp only
    have ko := hg tg o hv
    have jl := zip_le ko.1 hfs
    have jo := join_okT ko.1 hfs
    have jz := zH_zip ko.2.1 hz
    split
    · rename_i h
      have e := FD_eqv.mp h
      refine ⟨⟨fun t g z => ⟨g, z, leF.refl g, rfl⟩, fun t _ => rfl, o, hv, by rw [← e]; exact jl.2⟩, hg, fun _ => rfl, id, Nat.le_succ _, Nat.le_succ _⟩
    · dsimp only
      have k : ∀ nw, okT nw → zH nw → leF (List.zipWith joinF o fs) nw → leF fs nw ∧ ∀ o', valT F tg = some o' → leF o' nw := fun nw h1 h2 h3 => by
        refine ⟨leF.trans (by rw [hfs.1, jo.1]) jl.2 h3, fun o' e => ?_⟩
        rw [hv] at e; cases e
        exact leF.trans (by rw [ko.1.1, jo.1]) jl.1 h3
      have h7 : okT (if 7 ≤ (valT T tg).getD 0 + 1 then widF o (List.zipWith joinF o fs) else List.zipWith joinF o fs) ∧ zH (if 7 ≤ (valT T tg).getD 0 + 1 then widF o (List.zipWith joinF o fs) else List.zipWith joinF o fs) ∧ leF (List.zipWith joinF o fs) (if 7 ≤ (valT T tg).getD 0 + 1 then widF o (List.zipWith joinF o fs) else List.zipWith joinF o fs) := by
        split
        · exact ⟨widF_ok ko.1 jo, widF_zH ko.2.1 jz, widF_le⟩
        · exact ⟨jo, jz, leF.refl _⟩
      generalize (if 7 ≤ (valT T tg).getD 0 + 1 then widF o (List.zipWith joinF o fs) else List.zipWith joinF o fs) = nw at *
      have k1 := k nw h7.1 h7.2.1 h7.2.2
      have k2 := upd nw ((valT T tg).getD 0 + 1) h7.1 h7.2.1 k1.1 k1.2
      exact ⟨k2.1, k2.2, (fun z => by cases z), put_nd, put_le, put_le⟩
theorem closed_grow {m : Img} {F F' : List Row} {tg t : Int} {fs : Facts} (G : Grow F F' tg fs) (hok : ∀ t g, valT F t = some g → okT g) (hm : m.ok) (ht : t ≠ tg) (h : closedAt m F t) : closedAt m F' t := by
  obtain ⟨g, ws, e1, e2, e3⟩ := h
  refine ⟨g, ws, by rw [G.same t ht]; exact e1, e2, fun w hw hp => ?_⟩
  obtain ⟨g2, e4, e5⟩ := e3 w hw hp
  obtain ⟨g3, e6, e7, _⟩ := G.old _ _ e4
  exact ⟨g3, e6, leF.trans (by rw [(waysF_ok hm (hok t g e1) e2 w hw).1, (hok _ _ e4).1]) e5 e7⟩
/-- the queue behind a step -/
def nextQ (b : Bool) (Wt : List (Int × Bool)) (Q : List Int) (tg : Int) : List (Int × Bool) × List Int := if (b && !(valT Wt tg).getD false) = true then (putT Wt tg true, Q ++ [tg]) else (Wt, Q)
theorem mem_drop_app {Q : List Int} {k : Nat} {t tg : Int} (h : t ∈ Q.drop k) : t ∈ (Q ++ [tg]).drop k := by
  rw [List.drop_append]; exact List.mem_append_left _ h
theorem inner_step {m : Img} {F : List Row} {T : List (Int × Int)} {Wt : List (Int × Bool)} {Q : List Int} {k : Nat} {a : Int} {fa : Facts} {l : List Row} {tg : Int} {fs : Facts} (hm : m.ok) (I : InvI m F T Wt Q k a fa l) (hl : ∀ w ∈ l, okT w.2) (hfs : okT fs) (hz : zH fs) (hp : placeB m tg = true) :
    InvI m (uniF F T tg fs).f (uniF F T tg fs).t (nextQ (uniF F T tg fs).b Wt Q tg).1 (nextQ (uniF F T tg fs).b Wt Q tg).2 k a fa (l ++ [(tg, fs)]) := by
  obtain ⟨G, g2, gb, gnd, _, _⟩ := uni_grow I.good hfs hz hp
  generalize uniF F T tg fs = u at *
  have hsub : ∀ t ∈ Q.drop k, t ∈ (nextQ u.b Wt Q tg).2.drop k := fun t ht => by
    unfold nextQ
    split
    · exact mem_drop_app ht
    · exact ht
  have hpend : u.b = true → tg ∈ (nextQ u.b Wt Q tg).2.drop k := fun hb => by
    unfold nextQ
    cases hw : (valT Wt tg).getD false with
    | true =>
      rw [if_neg (by rw [hb]; decide)]
      refine I.wt tg ?_
      cases hv : valT Wt tg with
      | none => rw [hv] at hw; cases hw
      | some b => rw [hv] at hw; cases hw; rfl
    | false =>
      rw [if_pos (by rw [hb]; rfl)]
      show tg ∈ (Q ++ [tg]).drop k
      rw [List.drop_append, show k - Q.length = 0 from Nat.sub_eq_zero_of_le I.kQ]
      exact List.mem_append_right _ (List.mem_singleton.mpr rfl)
  have hhas : ∀ t, hasT F t = true → hasT u.f t = true := fun t h => by
    obtain ⟨g, hg⟩ := has_some.mp h
    obtain ⟨g', h', _⟩ := G.old t g hg
    exact has_some.mpr ⟨g', h'⟩
  have htg : hasT u.f tg = true := by
    obtain ⟨g2, h2, _⟩ := G.new
    exact has_some.mpr ⟨g2, h2⟩
  have hok := fun t g (h : valT F t = some g) => (I.good t g h).1
  refine ⟨⟨gnd I.nd, g2, ?_, ?_, ?_, ?_⟩, ?_, ?_⟩
  · obtain ⟨g, h1, h2⟩ := I.ent
    obtain ⟨g', h3, h4, _⟩ := G.old _ _ h1
    exact ⟨g', h3, leF.trans (by rw [(hok _ _ h1).1]; rfl) h2 h4⟩
  · intro t ht
    unfold nextQ at ht ⊢
    split at ht
    · rename_i hc
      rw [if_pos hc]
      dsimp only at ht ⊢
      rw [valT_put] at ht
      by_cases e : t = tg
      · subst e
        have hb := (Bool.and_eq_true_iff.mp hc).1
        have := hpend hb
        unfold nextQ at this
        rw [if_pos hc] at this
        exact this
      · rw [if_neg e] at ht
        exact mem_drop_app (I.wt t ht)
    · rename_i hc
      rw [if_neg hc]
      exact I.wt t ht
  · intro t ht
    unfold nextQ at ht
    split at ht
    · rcases List.mem_append.mp ht with z | z
      · exact hhas t (I.qk t z)
      · rw [List.mem_singleton.mp z]; exact htg
    · exact hhas t (I.qk t ht)
  · unfold nextQ
    split
    · show k ≤ (Q ++ [tg]).length
      rw [List.length_append]
      exact Nat.le_trans I.kQ (Nat.le_add_right _ _)
    · exact I.kQ
  · intro t ht hta
    by_cases e : t = tg
    · subst e
      cases hb : u.b with
      | true => rw [← hb]; exact .inl (hpend hb)
      | false =>
        have e2 := gb hb
        rw [← hb]
        rw [e2] at ht ⊢
        exact (I.cl t ht hta).imp (hsub t) id
    · have h2 : hasT F t = true := by
        unfold hasT at ht ⊢
        rw [← G.same t e]; exact ht
      exact (I.cl t h2 hta).imp (hsub t) (closed_grow G hok hm e)
  · rcases I.cur with h | ⟨h1, h2⟩
    · exact .inl (hsub a h)
    · have fin : valT u.f a = some fa → a ∈ (nextQ u.b Wt Q tg).2.drop k ∨ (valT u.f a = some fa ∧ ∀ w ∈ l ++ [(tg, fs)], placeB m w.1 = true → ∃ g2, valT u.f w.1 = some g2 ∧ leF w.2 g2) := fun h => by
        refine .inr ⟨h, fun w hw hpw => ?_⟩
        rcases List.mem_append.mp hw with z | z
        · obtain ⟨g3, e4, e5⟩ := h2 w z hpw
          obtain ⟨g4, e6, e7, _⟩ := G.old _ _ e4
          exact ⟨g4, e6, leF.trans (by rw [(hl w z).1, (hok _ _ e4).1]) e5 e7⟩
        · rw [List.mem_singleton.mp z]; exact G.new
      by_cases e : a = tg
      · subst e
        cases hb : u.b with
        | true => rw [← hb]; exact .inl (hpend hb)
        | false =>
          rw [← hb]
          exact fin (by rw [gb hb]; exact h1)
      · exact fin (by rw [G.same a e]; exact h1)
theorem inner_skip {m : Img} {F : List Row} {T : List (Int × Int)} {Wt : List (Int × Bool)} {Q : List Int} {k : Nat} {a : Int} {fa : Facts} {l : List Row} {w : Row} (I : InvI m F T Wt Q k a fa l) (hp : placeB m w.1 = false) : InvI m F T Wt Q k a fa (l ++ [w]) :=
  ⟨I.toInv0, I.cl, I.cur.imp id fun h => ⟨h.1, fun v hv hpv => by
    rcases List.mem_append.mp hv with z | z
    · exact h.2 v z hpv
    · rw [List.mem_singleton.mp z, hp] at hpv; cases hpv⟩⟩
theorem inner_end {m : Img} {F : List Row} {T : List (Int × Int)} {Wt : List (Int × Bool)} {Q : List Int} {k : Nat} {a : Int} {fa : Facts} {ws : List Row} (I : InvI m F T Wt Q k a fa ws) (hw : waysF m a fa = some ws) : InvO m F T Wt Q k :=
  ⟨I.toInv0, fun t ht => by
    by_cases e : t = a
    · subst e
      exact I.cur.imp id fun h => ⟨fa, ws, h.1, hw, h.2⟩
    · exact I.cl t ht e⟩
theorem inner_start {m : Img} {F : List Row} {T : List (Int × Int)} {Wt : List (Int × Bool)} {Q : List Int} {k : Nat} {a : Int} {fa : Facts} (I : InvO m F T Wt Q k) (hk : Q[k]? = some a) (hf : valT F a = some fa) : InvI m F T (putT Wt a false) Q (k + 1) a fa [] := by
  have hlt : k < Q.length := (List.getElem?_eq_some_iff.mp hk).1
  have ed : Q.drop k = a :: Q.drop (k + 1) := by
    rw [List.drop_eq_getElem_cons hlt]
    rw [List.getElem?_eq_getElem hlt] at hk
    cases hk; rfl
  have nx : ∀ t, t ∈ Q.drop k → t ≠ a → t ∈ Q.drop (k + 1) := fun t h ne => by
    rw [ed] at h
    exact (List.mem_cons.mp h).resolve_left ne
  refine ⟨⟨I.nd, I.good, I.ent, fun t ht => ?_, I.qk, hlt⟩, fun t ht hne => (I.cl t ht).imp (fun z => nx t z hne) id, .inr ⟨hf, fun w hw => absurd hw List.not_mem_nil⟩⟩
  rw [valT_put] at ht
  by_cases e : t = a
  · rw [if_pos e] at ht; cases ht
  · rw [if_neg e] at ht
    exact nx t (I.wt t ht) e
end K23
/-! solve: the walk -/
namespace K23
open PySem PySem.Spec PyProof.Rows L2
def tableOf (F : List Row) : List Row := (isort (F.map (·.1))).map fun t => (t, (valT F t).getD [])
def SolveR (m : Img) (rs : List Row) : Prop := (placeB m m.entry = false ∧ rs = []) ∨ rs = plainF m ∨ ∃ F T Wt Q, InvO m F T Wt Q Q.length ∧ rs = tableOf F
theorem c_start : c_START = FD start := rfl
structure St4 (S : Sto) (p1 p2 p3 p4 : Addr) (F : List Row) (T : List (Int × Int)) (Wt : List (Int × Bool)) (Q : List Int) (S' : Sto) : Prop where
  le : SLe S S'
  f : S' p1 = some (.dct (kvT fdS F))
  t : S' p2 = some (.dct (kvT intS T))
  q : S' p3 = some (.lst (Q.map intS))
  w : S' p4 = some (.dct (kvT blS Wt))
structure D4 (S : Sto) (p1 p2 p3 p4 : Addr) : Prop where
  n1 : S p1 = none
  n2 : S p2 = none
  n3 : S p3 = none
  n4 : S p4 = none
  h12 : p1 ≠ p2
  h13 : p1 ≠ p3
  h14 : p1 ≠ p4
  h23 : p2 ≠ p3
  h24 : p2 ≠ p4
  h34 : p3 ≠ p4
theorem waysF_len {m : Img} {a : Int} {fs : Facts} {ws : List Row} (h : okT fs) (e : waysF m a fs = some ws) : ws.length ≤ 16 := by
  unfold waysF at e
  split at e
  · cases e; exact Nat.zero_le _
  · rename_i i hi
    have fi := decode_fit hi
    split at e
    · cases e; exact Nat.zero_le _
    split at e
    · cases e
      unfold jnF
      rw [List.length_map, isort_perm.length_eq, List.length_map]
      have k : ∀ (rs m : List Row), (rs.foldl jnS m).length ≤ m.length + rs.length := by
        intro rs
        induction rs with
        | nil => intro m; exact Nat.le_refl _
        | cons p rs ih =>
          intro m
          rw [List.foldl_cons, List.length_cons]
          have := ih (jnS m p)
          have := jnS_len m p
          omega
      have h1 := k (bwF a i fs) []
      have h2 := @bwF_len a i fs
      simp only [List.length_nil] at h1
      omega
    split at e
    · cases e
      unfold memF
      split <;> exact (by decide : 1 ≤ 16)
    split at e
    · cases e; exact (by decide : 1 ≤ 16)
    split at e
    · rename_i h5
      split at e
      · cases e
      · rename_i ts ht
        cases e
        rw [List.length_map]
        unfold targF at ht
        have kb := factAt_ok h i.b
        generalize factAt fs i.b = f at *
        cases f with
        | words us =>
          cases ht
          rw [isort_perm.length_eq, List.length_map]
          exact kb.1.2.2
        | top => cases ht
        | range lo hi => cases ht
    split at e
    · cases e; exact (by decide : 1 ≤ 16)
    split at e
    · cases e; exact (by decide : 1 ≤ 16)
    · cases e; exact (by decide : 1 ≤ 16)
theorem start_ok : okT start := ⟨rfl, fun f hf => by rw [List.eq_of_mem_replicate hf]; exact one_ok ⟨by decide, by decide⟩⟩
section
variable {Z : Zx} [W : W0 Z]
abbrev cSolve : Ct := fun xs S R => ∃ m : Img, xs = [.d m.D] ∧ m.ok ∧ ∀ rs, SolveR m rs → R (.d (tabD rs)) S
set_option maxHeartbeats 8000000 in
instance ok_solve : HasFn Z "solve" ["image"] 8 cSolve := fn_intro sc_solve nm_solve (fun _ _ _ _ _ _ us hl => match us, hl with | [_], _ => rfl) (by tm_at "ctl") fun X B xs S R hc => by
  obtain ⟨m, rfl, hm, hR⟩ := hc
  refine' sws_if2 (x := !placeB m m.entry) ?a1 (fun h => ?b1) fun h => ?c1
  case a1 => exact tv_not (tv_val (ev_call (av_cons (by tm_at "ev") (av_cons (by tm_at "ev") av_nil)) ⟨m, m.entry, rfl, hm, rfl, rfl⟩))
  case b1 =>
    have hR := hR [] (.inl ⟨by simpa using h, rfl⟩)
    exact sws_one (sw_retE (ev_tup (ds := []) av_nil rfl rfl) rfl hR)
  have he : placeB m m.entry = true := by simpa using h
  refine sws_cons (sw_set (ew_disp (pd_cons (kk := ki m.entry) (by tm_at "ev") (ev_cst (d := FD start)) (pd_nil ⟨Nat.le_of_ble_eq_true rfl, fun p1 hp1 => ?_⟩))))
  refine sws_cons (sw_set (ew_disp (pd_cons (kk := ki m.entry) (by tm_at "ev") (v := intS 0) (by tm_at "ev") (pd_nil ⟨Nat.le_of_ble_eq_true rfl, fun p2 hp2 => ?_⟩))))
  refine sws_newL (xs := [intS m.entry]) (av_cons (by tm_at "ev") av_nil) (sz_ok rfl) fun p3 hp3 => ?_
  refine sws_cons (sw_set (ew_disp (pd_cons (kk := ki m.entry) (by tm_at "ev") (v := blS true) (by tm_at "ev") (pd_nil ⟨Nat.le_of_ble_eq_true rfl, fun p4 hp4 => ?_⟩))))
  tm_at "set"
  have k1 := (SLe.refl S).new (o := .dct (kvT fdS [(m.entry, start)])) hp1
  have n2 := k1.free hp2
  have k2 := k1.new (o := .dct (kvT intS [(m.entry, 0)])) n2
  have n3 := k2.free hp3
  have k3 := k2.new (o := .lst ([m.entry].map intS)) n3
  have n4 := k3.free hp4
  have k4 := k3.new (o := .dct (kvT blS [(m.entry, true)])) n4
  have ne : ∀ {S : Sto} {a b : Addr} {o : MO}, supd S a o b = none → a ≠ b := fun h e => by rw [← e, supd_same] at h; cases h
  have pn : ∀ {S : Sto} {a b : Addr} {o : MO}, supd S a o b = none → S b = none := fun {S a b o} h => by rw [← h, supd_ne (Ne.symm (ne h))]
  have D : D4 S p1 p2 p3 p4 := ⟨hp1, n2, n3, n4, ne hp2, ne (pn hp3), ne (pn (pn hp4)), ne hp3, ne (pn hp4), ne hp4⟩
  have S0 : St4 S p1 p2 p3 p4 [(m.entry, start)] [(m.entry, 0)] [(m.entry, true)] [m.entry] (supd (supd (supd (supd S p1 (.dct (kvT fdS [(m.entry, start)]))) p2 (.dct (kvT intS [(m.entry, 0)]))) p3 (.lst ([m.entry].map intS))) p4 (.dct (kvT blS [(m.entry, true)]))) :=
    ⟨k4, by rw [supd_ne D.h14, supd_ne D.h13, supd_ne D.h12]; exact supd_same, by rw [supd_ne D.h24, supd_ne D.h23]; exact supd_same, by rw [supd_ne D.h34]; exact supd_same, supd_same⟩
  have I0 : InvO m [(m.entry, start)] [(m.entry, 0)] [(m.entry, true)] [m.entry] 0 := by
    have hv : ∀ {β : Type} {t : Int} {v g : β}, valT [(m.entry, v)] t = some g → t = m.entry ∧ g = v := fun {β t v g} h => by
      have h : (if m.entry = t then some v else none) = some g := h
      by_cases e : m.entry = t
      · rw [if_pos e] at h; cases h; exact ⟨e.symm, rfl⟩
      · rw [if_neg e] at h; cases h
    refine ⟨⟨by simp, fun t g h => ?_, ⟨start, if_pos rfl, leF.refl _⟩, fun t h => ?_, fun t h => ?_, Nat.zero_le _⟩, fun t h => ?_⟩
    · obtain ⟨rfl, rfl⟩ := hv h
      exact ⟨start_ok, rfl, he, has_some.mpr ⟨0, if_pos rfl⟩⟩
    · obtain ⟨rfl, _⟩ := hv h
      exact List.mem_cons_self
    · rw [List.mem_singleton.mp h]; exact has_some.mpr ⟨start, if_pos rfl⟩
    · obtain ⟨g, hg⟩ := has_some.mp h
      obtain ⟨rfl, _⟩ := hv hg
      exact .inl List.mem_cons_self
  refine sws_cons (sw_while (fun n δ' S' => ∃ (F : List Row) (T : List (Int × Int)) (Wt : List (Int × Bool)) (Q : List Int) (k : Nat) (u6 u7 u8 u9 : Option SV), n = 100001 - k ∧ InvO m F T Wt Q k ∧ szs F T Wt Q (1 + 20 * k) ∧ k ≤ 100000 ∧ St4 S p1 p2 p3 p4 F T Wt Q S' ∧
      δ' = [some (.d m.D), some (.r p1), some (.r p2), some (.r p3), some (.r p4), some (.d (.int (k : Int))), u6, u7, u8, u9]) 100001
    ⟨[(m.entry, start)], [(m.entry, 0)], [(m.entry, true)], [m.entry], 0, none, none, none, none, rfl, I0, ⟨Nat.le_refl 1, Nat.le_refl 1, Nat.le_refl 1, Nat.le_refl 1⟩, Nat.zero_le _, S0, rfl⟩ ?_)
  rintro n δ' S' ⟨F, T, Wt, Q, k, u6, u7, u8, u9, rfl, I, sz, hk, st, rfl⟩
  have lQ : ((Q.map intS).length : Int) = (Q.length : Int) := by rw [List.length_map]
  refine ⟨decide ((k : Int) < (Q.length : Int)), TV.is (tv_cmp (cv_lt (by tm_at "ev") (ev_lenO (by tm_at "ev") st.q))) (by rw [lQ]), fun h => ?_, fun h => ?_⟩
  · have hlt : k < Q.length := by have := of_decide_eq_true h; omega
    have hQ : Q[k]? = some Q[k] := List.getElem?_eq_getElem hlt
    generalize Q[k] = a at hQ
    obtain ⟨fa, hfa⟩ := has_some.mp (I.qk a (List.mem_of_getElem? hQ))
    have ga := I.good a fa hfa
    refine sws_setV (v := intS a) (ev_ixO (by tm_at "ev") (by tm_at "ev") st.q (atI_nat (by rw [List.getElem?_map, hQ]; rfl))) ?_
    tm_at "set"
    refine sws_dputV (kk := ki a) (v := blS false) (by tm_at "ev") (by tm_at "ev") (by tm_at "ev") st.w (by unfold kvT; rw [List.length_map]; have := sz.2.2.1; unfold sizeLine; omega) ?_
    rw [put_kv (D := blS)]
    have J := inner_start I hQ hfa
    have st1 : St4 S p1 p2 p3 p4 F T (putT Wt a false) Q (supd S' p4 (.dct (kvT blS (putT Wt a false)))) := ⟨st.le.new D.n4, by rw [supd_ne D.h14]; exact st.f, by rw [supd_ne D.h24]; exact st.t, by rw [supd_ne D.h34]; exact st.q, supd_same⟩
    have sz1 : szs F T (putT Wt a false) Q (1 + 20 * k + 1) := ⟨by have := sz.1; omega, by have := sz.2.1; omega, by have := sz.2.2.1; have := put_le (m := Wt) (k := a) (v := false); omega, by have := sz.2.2.2; omega⟩
    generalize putT Wt a false = Wt1 at *
    generalize supd S' p4 (.dct (kvT blS Wt1)) = S1 at *
    have vk := val_kv (D := fdS) (m := F) (k := a)
    rw [hfa] at vk
    refine sws_setV (ev_call (av_cons (by tm_at "ev") (av_cons (by tm_at "ev") (av_cons (ev_dget (kk := ki a) (v := fdS fa) (by tm_at "ev") (by tm_at "ev") st1.f vk) av_nil))) ⟨m, a, fa, rfl, hm, place_find ga.2.2.1, ga.1, rfl, rfl⟩) ?_
    cases hw : waysF m a fa with
    | none =>
      have hR := hR (plainF m) (.inr (.inl rfl))
      refine sws_ifT (x := true || false) (tv_w (wv_or (tv_cmp (cv_isN (x := PyData.none) (ev_var rfl))) fun h => by cases h)) rfl ?_
      exact sws_sub st1.le (sws_one (sw_retE (ev_call (by tm_at "av") ⟨m, rfl, hm, rfl, rfl⟩) rfl hR))
    | some ws =>
      refine' sws_if2 (x := false || decide (100000 < (k : Int) + 1)) ?a3 (fun h => ?b3) fun h => ?c3
      case a3 => exact tv_w (wv_or (tv_cmp (cv_isN (x := rowsD ws) (ev_var rfl))) fun _ => wv_or1 (by tm_at "tv"))
      case b3 =>
        have hR := hR (plainF m) (.inr (.inl rfl))
        exact sws_sub st1.le (sws_one (sw_retE (ev_call (by tm_at "av") ⟨m, rfl, hm, rfl, rfl⟩) rfl hR))
      have hk2 : k + 1 ≤ 100000 := by
        rw [Bool.false_or] at h
        have := of_decide_eq_false h
        omega
      have hwok := waysF_ok hm ga.1 hw
      have hwz := waysF_zH ga.2.1 hw
      have hwl := waysF_len ga.1 hw
      refine sws_one (sw_forT (D := rowD) (ts := ws) (iw_list (ev_var rfl))
        (fun r δ' S' => ∃ (l : List Row) (F : List Row) (T : List (Int × Int)) (Wt : List (Int × Bool)) (Q : List Int) (u v : Option SV), ws = l ++ r ∧ InvI m F T Wt Q (k + 1) a fa l ∧ szs F T Wt Q (1 + 20 * k + 1 + l.length) ∧ St4 S p1 p2 p3 p4 F T Wt Q S' ∧
          δ' = [some (.d m.D), some (.r p1), some (.r p2), some (.r p3), some (.r p4), some (.d (.int ((k : Int) + 1))), some (.d (.int a)), some (.d (rowsD ws)), u, v])
        ⟨[], F, T, Wt1, Q, u8, u9, rfl, J, sz1, st1, rfl⟩ (fun _ _ _ _ => trivial) ?_ ?_)
      · rintro ⟨tg, fs⟩ r δ' S' ⟨l, F, T, Wt, Q, u, v, e1, J, sz, st, rfl⟩
        have hfs : okT fs := hwok (tg, fs) (by rw [e1]; simp)
        have hz : zH fs := hwz (tg, fs) (by rw [e1]; simp)
        have hl : l.length < 16 := by
          have := congrArg List.length e1
          rw [List.length_append, List.length_cons] at this
          omega
        have hlok : ∀ w ∈ l, okT w.2 := fun w hw => hwok w (by rw [e1]; simp [hw])
        have e3 : ws = (l ++ [(tg, fs)]) ++ r := by rw [e1]; simp
        refine gw_tup (gws_cons (gws_cons (gws_nil ?_)))
        refine sws_one (sw_ifW (tw_w (ww_and (TV.use (x := placeB m tg) (tv_val (ev_call (by tm_at "av") ⟨m, tg, rfl, hm, rfl, rfl⟩)) ?_))))
        cases hp : placeB m tg with
        | false =>
          rw [if_neg Bool.false_ne_true, if_neg Bool.false_ne_true]
          refine sws_nil ⟨l ++ [(tg, fs)], F, T, Wt, Q, _, _, e3, inner_skip J hp, ?_, st, rfl⟩
          rw [List.length_append]
          exact ⟨by have := sz.1; omega, by have := sz.2.1; omega, by have := sz.2.2.1; omega, by have := sz.2.2.2; omega⟩
        | true =>
          have J2 := inner_step hm J hlok hfs hz hp
          obtain ⟨_, _, _, _, sl1, sl2⟩ := uni_grow (fs := fs) J.good hfs hz hp
          rw [if_pos rfl]
          refine ww_and1 ?_
          refine tw_val ?_ ?_
          rotate_left
          · exact fun _ => rfl
          refine ew_call (by decide) (AV.use (x := [.r p1, .r p2, .d (.int tg), .d (FD fs)]) (by tm_at "av") ?_)
          refine (⟨p1, p2, F, T, tg, fs, rfl, D.h12, st.f, st.t, hfs, fun t g h => ⟨(J.good t g h).1, (J.good t g h).2.2.2⟩, by have := sz.1; unfold sizeLine; omega, by have := sz.2.1; unfold sizeLine; omega, _, rfl, ?_⟩)
          generalize uniF F T tg fs = un at *
          have st2 : St4 S p1 p2 p3 p4 un.f un.t Wt Q (supd (supd S' p1 (.dct (kvT fdS un.f))) p2 (.dct (kvT intS un.t))) :=
            ⟨(st.le.new D.n1).new D.n2, by rw [supd_ne D.h12]; exact supd_same, supd_same, by rw [supd_ne (Ne.symm D.h23), supd_ne (Ne.symm D.h13)]; exact st.q, by rw [supd_ne (Ne.symm D.h24), supd_ne (Ne.symm D.h14)]; exact st.w⟩
          generalize supd (supd S' p1 (.dct (kvT fdS un.f))) p2 (.dct (kvT intS un.t)) = S2 at *
          have szn : ∀ {W2 : List (Int × Bool)} {Q2 : List Int}, W2.length ≤ Wt.length + 1 → Q2.length ≤ Q.length + 1 → szs un.f un.t W2 Q2 (1 + 20 * k + 1 + (l ++ [(tg, fs)]).length) := fun h1 h2 => by
            rw [List.length_append]
            exact ⟨by have := sz.1; simp only [List.length_cons, List.length_nil]; omega, by have := sz.2.1; simp only [List.length_cons, List.length_nil]; omega, by have := sz.2.2.1; simp only [List.length_cons, List.length_nil]; omega, by have := sz.2.2.2; simp only [List.length_cons, List.length_nil]; omega⟩
          cases hb : un.b with
          | false =>
            have e4 : nextQ un.b Wt Q tg = (Wt, Q) := by unfold nextQ; rw [hb]; rfl
            rw [e4] at J2
            rw [if_neg Bool.false_ne_true]
            exact sws_nil ⟨l ++ [(tg, fs)], un.f, un.t, Wt, Q, _, _, e3, J2, szn (Nat.le_succ _) (Nat.le_succ _), st2, rfl⟩
          | true =>
            have vw := val_kv (D := blS) (m := Wt) (k := tg)
            rw [if_pos rfl]
            refine' sws_one (sw_if (x := !(valT Wt tg).getD false) ?a4 (fun h => ?b4) fun h => ?c4)
            case a4 =>
              refine tv_not (tv_val (EV.is (ew_dget2 (kk := ki tg) (y := blS false) (by tm_at "ev") (by tm_at "ev") (by tm_at "ev") st2.w ⟨rfl, rfl⟩) ?_))
              rw [vw]
              cases valT Wt tg <;> rfl
            case c4 =>
              have e4 : nextQ un.b Wt Q tg = (Wt, Q) := by unfold nextQ; rw [h, Bool.and_false]; rfl
              rw [e4] at J2
              exact sws_nil ⟨l ++ [(tg, fs)], un.f, un.t, Wt, Q, _, _, e3, J2, szn (Nat.le_succ _) (Nat.le_succ _), st2, rfl⟩
            have e4 : nextQ un.b Wt Q tg = (putT Wt tg true, Q ++ [tg]) := by unfold nextQ; rw [h, hb]; rfl
            rw [e4] at J2
            refine sws_dputV (kk := ki tg) (v := blS true) (by tm_at "ev") (by tm_at "ev") (by tm_at "ev") st2.w (by unfold kvT; rw [List.length_map]; have := sz.2.2.1; unfold sizeLine; omega) ?_
            rw [put_kv (D := blS)]
            have hq3 : (supd S2 p4 (.dct (kvT blS (putT Wt tg true)))) p3 = some (.lst (Q.map intS)) := by rw [supd_ne D.h34]; exact st2.q
            refine sws_app (v := intS tg) (by tm_at "ev") hq3 (by tm_at "ev") (by rw [List.length_map]; have := sz.2.2.2; unfold sizeLine; omega) (sws_nil ⟨l ++ [(tg, fs)], un.f, un.t, putT Wt tg true, Q ++ [tg], _, _, e3, J2, szn put_le (by rw [List.length_append]; exact Nat.le_refl _), ⟨(st2.le.new D.n4).new D.n3, ?_, ?_, ?_, ?_⟩, rfl⟩)
            · rw [supd_ne D.h13, supd_ne D.h14]; exact st2.f
            · rw [supd_ne D.h23, supd_ne D.h24]; exact st2.t
            · rw [supd_same, List.map_append]; rfl
            · rw [supd_ne (Ne.symm D.h34)]; exact supd_same
      · rintro δ' S' ⟨l, F, T, Wt, Q, u, v, e1, J, sz, st, rfl⟩
        rw [List.append_nil] at e1
        subst e1
        refine ⟨100001 - (k + 1), by omega, F, T, Wt, Q, k + 1, _, _, _, _, rfl, inner_end J hw, ?_, hk2, st, rfl⟩
        exact ⟨by have := sz.1; omega, by have := sz.2.1; omega, by have := sz.2.2.1; omega, by have := sz.2.2.2; omega⟩
  · have hge : k = Q.length := by have := of_decide_eq_false h; have := I.kQ; omega
    subst hge
    have hR := hR (tableOf F) (.inr (.inr ⟨F, T, Wt, Q, I, rfl⟩))
    refine sws_one (sw_retV (v := .d (tabD (tableOf F))) (EV.is (ev_tupleL (ev_lcM (D := PyData.int) (ts := isort (F.map (·.1))) (F := fun t => rowD (t, (valT F t).getD [])) [("address", 6)] [false, true, false, false, false, false, true, false, false, false] [false, false, false, false, false, false, true, false, false, false] [] (by decide +kernel) (by decide +kernel) (by decide) (iw_list (ev_sortI (ew_listD ((ev_var rfl).use ⟨p1, _, rfl, st.f, ?_, rfl⟩)))) ?_ fun X1 _ t ht => ?_)) (by unfold tabD tableOf; rw [List.map_map]; rfl)) st.le hR)
    · unfold kvT
      rw [List.map_map, List.map_map]; rfl
    · rw [isort_perm.length_eq, List.length_map]
      have := sz.1
      unfold sizeLine
      omega
    · obtain ⟨g, hg⟩ := has_some.mp (has_mem.mpr (isort_perm.mem_iff.mp ht))
      have vk := val_kv (D := fdS) (m := F) (k := t)
      rw [hg] at vk
      refine EV.is (ev_tup (ds := [.int t, FD g]) (av_cons (by tm_at "ev") (av_cons (ev_dget (kk := ki t) (v := fdS g) (by tm_at "ev") (by tm_at "ev") st.f vk) av_nil)) rfl rfl) ?_
      unfold rowD
      rw [hg]; rfl
end
end K23
/-! the law's own defs, 1: draws -/
namespace K23
open PySem PySem.Spec PyProof.Rows L2
/-- but for the places l all own objects stay -/
def Kp (l : List Addr) (S S' : Sto) : Prop := ∀ a o, a ∉ l → S a = some o → S' a = some o
theorem Kp.refl (l : List Addr) (S : Sto) : Kp l S S := fun _ _ _ h => h
theorem Kp.trans {l : List Addr} {S T U : Sto} (h : Kp l S T) (h2 : Kp l T U) : Kp l S U := fun a o n e => h2 a o n (h a o n e)
theorem Kp.put {l : List Addr} {S T : Sto} {p : Addr} {o : MO} (h : Kp l S T) (hp : p ∈ l) : Kp l S (supd T p o) := fun a u n e => by
  rw [supd_ne (fun z : a = p => n (by rw [z]; exact hp))]; exact h a u n e
theorem Kp.new {l : List Addr} {S T : Sto} {p : Addr} {o : MO} (h : Kp l S T) (hn : T p = none) : Kp l S (supd T p o) := fun a u n e => by
  have t := h a u n e
  rw [supd_ne (fun z => by rw [z, hn] at t; cases t)]; exact t
theorem Kp.sub {l l' : List Addr} {S T : Sto} (h : Kp l S T) (hl : ∀ a ∈ l, a ∈ l') : Kp l' S T := fun a u n e => h a u (fun z => n (hl a z)) e
def drawL (cs : List Int) (i c s : Int) : MO := .lst [.d (.list (cs.map PyData.int)), .d (.int i), .d (.int c), .d (.int s)]
def Dr (S : Sto) (q : Addr) : Prop := ∃ (cs : List Int) (i c s : Int), S q = some (drawL cs i c s) ∧ -1 ≤ i ∧ 0 ≤ s ∧ s < 2 ^ 31
theorem mod31 (x : Int) : 0 ≤ x % 2147483647 ∧ x % 2147483647 < 2 ^ 31 := by omega
section
variable {Z : Zx} [W : W0 Z]
/-- xs[i] = e at an own list -/
theorem sws_setO {Z : Zx} {X : Cx} {N : List Str} {sc : Scope} {bs ls : List Bool} {gs : List Str} {k : Nat} [B : Bd Z X N sc bs ls gs k] {a b e : Expr} {δ : Dl} {S : Sto} {E : DE} {pos px : Pos} {rest : List Stmt} {q : Addr} {xs : List SV} {i : Int} {j : Nat} {v : SV} (he : EV X e δ S v) (hv : EV X a δ S (.r q)) (hb : EV X b δ S (.d (.int i))) (hq : S q = some (.lst xs)) (hi : ixN xs.length i = some j)
    (h1 : SWs X rest δ (supd S q (.lst (xs.set j v))) E)
    (ha : ∀ v, assign (.Subscript a b px) X.env v = (do
      let ov ← holding [v] (eval a X.env)
      let iv ← holding [v, ov] (eval b X.env)
      standAt px
      holding [v, ov, iv] (setItem ov iv v)
      release [v, ov, iv] []) := by intro _; rfl)
    (hs : swapsWithSole [.Subscript a b px] e pos.line X.env = pure false := by rfl) (hw : swappedStores [.Subscript a b px] e X.env = pure none := by rfl) (h2 : (assignEach [.Subscript a b px] X.env).map (·.2) = [assign (.Subscript a b px) X.env] := by rfl) :
    SWs X (.Assign [.Subscript a b px] e pos :: rest) δ S E :=
  sws_cons (sw_asg (he.use (gw_setL (hv.use (hb.use ⟨q, xs, j, i, rfl, rfl, hq, hi, h1⟩)) ha)) hs hw h2)
abbrev cDraw : Ct := fun xs S R => ∃ ns : List Int, xs = [.d (.list (ns.map PyData.int))] ∧ ns.length ≤ 1000 ∧ ∀ q S', S q = none → Kp [] S S' → Dr S' q → R (.r q) S'
instance ok__law_draw : HasFn Z "_law_draw" ["_law_script"] 1 cDraw := fn_intro sc__law_draw nm__law_draw (fun _ _ _ _ _ _ us hl => match us, hl with | [_], _ => rfl) (by tm_at "ctl") fun X B xs S R hc => by
  obtain ⟨ns, rfl, hn, hR⟩ := hc
  tm_at "set"
  refine sws_cons (sw_forT (D := PyData.int) (ts := ns) (iw_list (ev_var rfl)) (fun r δ' S2 => ∃ (s : Int) (u : Option SV), δ' = [some (.d (.list (ns.map PyData.int))), some (.d (.int s)), u] ∧ S2 = S ∧ 0 ≤ s ∧ s < 2 ^ 31)
    ⟨7, none, rfl, rfl, by decide, by decide⟩ (fun _ _ _ _ => trivial) ?_ ?_)
  · rintro t r δ' S2 ⟨s, u, rfl, rfl, h1, h2⟩
    refine ew_tg (sws_setV (ev_mod (ev_int1 (ev_add (ev_add (ev_mul (by tm_at "ev") (by tm_at "ev") (.inr ⟨by decide, by decide⟩)) (ev_mod (ev_abs (ev_int1 (by tm_at "ev"))) (by tm_at "ev") (by decide))) (by tm_at "ev"))) (by tm_at "ev") (by decide)) (sws_nil ⟨_, _, rfl, rfl, (mod31 _).1, (mod31 _).2⟩))
  · rintro δ' S2 ⟨s, u, rfl, rfl, h1, h2⟩
    refine sws_one (sw_ret (ew_lstO (AV.use (av_cons (ev_lcM (D := PyData.int) (ts := ns) (F := fun i => .int (if i < 0 then -i else i)) [("_law_cell", 2)] [false, false, true] [false, false, true] ["abs", "int"] (by decide +kernel) (by decide +kernel) (by decide) (iw_list (ev_var rfl)) (by unfold sizeLine; omega) fun X1 _ t ht => ev_abs (ev_int1 (by tm_at "ev"))) (av_cons (by tm_at "ev") (av_cons (by tm_at "ev") (av_cons (by tm_at "ev") av_nil)))) ⟨sz_ok rfl, fun p hp => ?_⟩)))
    exact hR p _ hp ((Kp.refl _ _).new hp) ⟨ns.map fun i => if i < 0 then -i else i, -1, 0, s, by rw [supd_same, drawL, List.map_map]; rfl, by decide, h1, h2⟩
abbrev cTake : Ct := fun xs S R => ∃ (q : Addr) (n : Int), xs = [.r q, .d (.int n)] ∧ Dr S q ∧ 1 ≤ n ∧ n < 2 ^ 40 ∧ ∀ (k : Int) S', 0 ≤ k → k < n → Kp [q] S S' → Dr S' q → R (.d (.int k)) S'
instance ok__law_take : HasFn Z "_law_take" ["_law_draw_here", "_law_many"] 1 cTake := fn_intro sc__law_take nm__law_take (fun _ _ _ _ _ _ us hl => match us, hl with | [_, _], _ => rfl) (by tm_at "ctl") fun X B xs S R hc => by
  obtain ⟨q, n, rfl, ⟨cs, i, c, s, hq, hi, hs1, hs2⟩, hn1, hn2, hR⟩ := hc
  refine sws_cons (SW.mono (E := { nx := fun δ' S' => δ' = [some (.r q), some (.d (.int n)), none] ∧ ∃ i c s, S' q = some (drawL cs i c s) ∧ Kp [q] S S' ∧ -1 ≤ i ∧ 0 ≤ s ∧ s < 2 ^ 31, rt := R, bk := fun _ _ => False, ct := fun _ _ => False }) ?st ?nx (fun _ _ h => h) (fun _ _ h => h.elim) fun _ _ h => h.elim)
  case st =>
    refine sw_if (tv_cmp (cv_eqI (ev_ixO (ev_var rfl) ev_int hq rfl) ev_int)) (fun h => ?_) fun h => sws_nil ⟨rfl, i, c, s, hq, Kp.refl _ _, hi, hs1, hs2⟩
    refine sws_setO (ev_add (ev_ixO (i := 1) (v := .d (.int i)) (ev_var rfl) ev_int hq rfl) ev_int) (ev_var rfl) ev_int hq rfl ?_
    have hk1 : Kp [q] S (supd S q (drawL cs (i + 1) c s)) := (Kp.refl _ _).put List.mem_cons_self
    have hq1 : (supd S q (drawL cs (i + 1) c s)) q = some (drawL cs (i + 1) c s) := supd_same
    show SWs X _ _ (supd S q (drawL cs (i + 1) c s)) _
    generalize supd S q (drawL cs (i + 1) c s) = S1 at *
    refine sws_cons (SW.mono (E := { nx := fun δ' S' => δ' = [some (.r q), some (.d (.int n)), none] ∧ ∃ c, S' q = some (drawL cs (i + 1) c s) ∧ Kp [q] S S', rt := R, bk := fun _ _ => False, ct := fun _ _ => False }) ?st2 ?nx2 (fun _ _ h => h) (fun _ _ h => h.elim) fun _ _ h => h.elim)
    case st2 =>
      refine sw_if (x := decide (i + 1 < (cs.length : Int))) (TV.is (tv_cmp (cv_lt (ev_ixO (i := 1) (v := .d (.int (i + 1))) (ev_var rfl) ev_int hq1 rfl) (ev_lenL (ds := cs.map PyData.int) (ev_ixO (ev_var rfl) ev_int hq1 rfl)))) (by rw [List.length_map])) (fun h => ?_) fun h => sws_nil ⟨rfl, c, hq1, hk1⟩
      have h := of_decide_eq_true h
      have hx : atI (cs.map PyData.int) (i + 1) = some (.int ((cs[(i + 1).toNat]?).getD 0)) := atIp (by omega) (getD_at (by omega))
      refine sws_setO (ev_ixL (ds := cs.map PyData.int) (ev_ixO (ev_var rfl) ev_int hq1 rfl) (ev_ixO (i := 1) (v := .d (.int (i + 1))) (ev_var rfl) ev_int hq1 rfl) hx) (ev_var rfl) ev_int hq1 rfl (sws_nil ⟨rfl, _, supd_same, hk1.put List.mem_cons_self⟩)
    rintro δ' S2 ⟨rfl, c2, hq2, hk2⟩
    refine sws_one (sw_if (tv_cmp (cv_eqI (ev_ixO (i := 2) (v := .d (.int c2)) (ev_var rfl) ev_int hq2 rfl) ev_int)) (fun h => ?_) fun h => sws_nil ⟨rfl, i + 1, c2, s, hq2, hk2, by omega, hs1, hs2⟩)
    refine sws_setO (ev_mod (ev_int1 (ev_add (ev_mul (ev_ixO (i := 3) (v := .d (.int s)) (ev_var rfl) ev_int hq2 rfl) ev_int (.inr ⟨by decide, by decide⟩)) ev_int)) ev_int (by decide)) (ev_var rfl) ev_int hq2 rfl ?_
    have hs := mod31 (s * 48271 + 11)
    generalize (s * 48271 + 11) % 2147483647 = s3 at *
    have hk3 : Kp [q] S (supd S2 q (drawL cs (i + 1) c2 s3)) := hk2.put List.mem_cons_self
    have hq3 : (supd S2 q (drawL cs (i + 1) c2 s3)) q = some (drawL cs (i + 1) c2 s3) := supd_same
    show SWs X _ _ (supd S2 q (drawL cs (i + 1) c2 s3)) _
    generalize supd S2 q (drawL cs (i + 1) c2 s3) = S3 at *
    refine sws_setO (ev_ixO (i := 3) (v := .d (.int s3)) (ev_var rfl) ev_int hq3 rfl) (ev_var rfl) ev_int hq3 rfl (sws_nil ⟨rfl, i + 1, s3, s3, supd_same, hk3.put List.mem_cons_self, by omega, hs.1, hs.2⟩)
  rintro δ' S2 ⟨rfl, i, c, s, hq2, hk2, hi, hs1, hs2⟩
  refine sws_setV (ev_mod (ev_int1 (ev_ixO (i := 2) (v := .d (.int c)) (ev_var rfl) ev_int hq2 rfl)) (by tm_at "ev") (by omega)) ?_
  refine sws_setO (ev_fdivP (ev_ixO (i := 2) (v := .d (.int c)) (ev_var rfl) ev_int hq2 rfl) (by tm_at "ev") (by omega) (by omega)) (ev_var rfl) ev_int hq2 rfl ?_
  exact sws_one (sw_ret (EV.use (ev_var rfl) (hR _ _ (Int.emod_nonneg _ (by omega)) (Int.emod_lt_of_pos _ (by omega)) (hk2.put List.mem_cons_self) ⟨cs, i, _, s, supd_same, hi, hs1, hs2⟩)))
end
end K23
/-! the law's own defs, 2: the builder's state -/
namespace K23
open PySem PySem.Spec PyProof.Rows L2
structure GS where
  code : List (Option Ins)
  left : Int
  deep : Int
  sub : Bool
  tabs : Int
  words : List (Int × Int)
  calls : List (Int × Int)
structure GP where
  p : Addr
  q : Addr
  c : Addr
  w : Addr
  k : Addr
def GP.l (A : GP) : List Addr := [A.p, A.q, A.c, A.w, A.k]
structure GP.nes (A : GP) : Prop where
  pq : A.p ≠ A.q
  pc : A.p ≠ A.c
  pw : A.p ≠ A.w
  pk : A.p ≠ A.k
  qc : A.q ≠ A.c
  qw : A.q ≠ A.w
  qk : A.q ≠ A.k
  cw : A.c ≠ A.w
  ck : A.c ≠ A.k
  wk : A.w ≠ A.k
def prD (p : Int × Int) : PyData := .tuple [.int p.1, .int p.2]
def Gb (A : GP) (g : GS) : List (Key × SV) := [(.inr "draw", .r A.q), (.inr "code", .r A.c), (.inr "left", .d (.int g.left)), (.inr "deep", .d (.int g.deep)), (.inr "sub", .d (.bool g.sub)), (.inr "tables", .d (.int g.tabs)), (.inr "words", .r A.w), (.inr "calls", .r A.k)]
abbrev codeL (c : List (Option Ins)) : MO := .lst ((c.map optI).map SV.d)
abbrev prL (c : List (Int × Int)) : MO := .lst ((c.map prD).map SV.d)
structure Gn (A : GP) (S0 S : Sto) (g : GS) : Prop where
  kp : Kp A.l S0 S
  ne : A.nes
  p : S A.p = some (.dct (Gb A g))
  q : Dr S A.q
  c : S A.c = some (codeL g.code)
  w : S A.w = some (prL g.words)
  k : S A.k = some (prL g.calls)
theorem GP.mp (A : GP) : A.p ∈ A.l := by simp [GP.l]
theorem GP.mq (A : GP) : A.q ∈ A.l := by simp [GP.l]
theorem GP.mc (A : GP) : A.c ∈ A.l := by simp [GP.l]
theorem GP.mw (A : GP) : A.w ∈ A.l := by simp [GP.l]
theorem GP.mk' (A : GP) : A.k ∈ A.l := by simp [GP.l]
theorem Dr.ne {S : Sto} {p q : Addr} {o : MO} (h : Dr S q) (n : p ≠ q) : Dr (supd S p o) q := by
  obtain ⟨cs, i, c, s, h1, h2⟩ := h
  exact ⟨cs, i, c, s, by rw [supd_ne (Ne.symm n)]; exact h1, h2⟩
section
variable {A : GP} {S0 S S' : Sto} {g : GS}
theorem Gn.self (h : Gn A S0 S g) : Gn A S S g := { h with kp := Kp.refl _ _ }
theorem Gn.from (h : Gn A S0 S g) {g' : GS} (h' : Gn A S S' g') : Gn A S0 S' g' := { h' with kp := h.kp.trans h'.kp }
theorem Gn.draw (h : Gn A S0 S g) (k : Kp [A.q] S S') (d : Dr S' A.q) : Gn A S0 S' g := by
  have f : ∀ {a : Addr} {o : MO}, a ≠ A.q → S a = some o → S' a = some o := fun n e => k _ _ (by simpa using n) e
  exact ⟨h.kp.trans (k.sub fun a ha => by rw [List.mem_singleton.mp ha]; exact A.mq), h.ne, f h.ne.pq h.p, d, f (Ne.symm h.ne.qc) h.c, f (Ne.symm h.ne.qw) h.w, f (Ne.symm h.ne.qk) h.k⟩
theorem Gn.code (h : Gn A S0 S g) (c : List (Option Ins)) : Gn A S0 (supd S A.c (codeL c)) { g with code := c } :=
  ⟨h.kp.put A.mc, h.ne, by rw [supd_ne h.ne.pc]; exact h.p, h.q.ne (Ne.symm h.ne.qc), supd_same, by rw [supd_ne (Ne.symm h.ne.cw)]; exact h.w, by rw [supd_ne (Ne.symm h.ne.ck)]; exact h.k⟩
theorem Gn.words (h : Gn A S0 S g) (c : List (Int × Int)) : Gn A S0 (supd S A.w (prL c)) { g with words := c } :=
  ⟨h.kp.put A.mw, h.ne, by rw [supd_ne h.ne.pw]; exact h.p, h.q.ne (Ne.symm h.ne.qw), by rw [supd_ne h.ne.cw]; exact h.c, supd_same, by rw [supd_ne (Ne.symm h.ne.wk)]; exact h.k⟩
theorem Gn.calls (h : Gn A S0 S g) (c : List (Int × Int)) : Gn A S0 (supd S A.k (prL c)) { g with calls := c } :=
  ⟨h.kp.put A.mk', h.ne, by rw [supd_ne h.ne.pk]; exact h.p, h.q.ne (Ne.symm h.ne.qk), by rw [supd_ne h.ne.ck]; exact h.c, by rw [supd_ne h.ne.wk]; exact h.w, supd_same⟩
theorem Gn.fld (h : Gn A S0 S g) (left deep : Int) (sub : Bool) (tabs : Int) : Gn A S0 (supd S A.p (.dct (Gb A { g with left := left, deep := deep, sub := sub, tabs := tabs }))) { g with left := left, deep := deep, sub := sub, tabs := tabs } :=
  ⟨h.kp.put A.mp, h.ne, supd_same, h.q.ne h.ne.pq, by rw [supd_ne (Ne.symm h.ne.pc)]; exact h.c, by rw [supd_ne (Ne.symm h.ne.pw)]; exact h.w, by rw [supd_ne (Ne.symm h.ne.pk)]; exact h.k⟩
end
structure GOk (g : GS) : Prop where
  l0 : 0 ≤ g.left
  d0 : 0 ≤ g.deep ∧ g.deep ≤ 2
  t0 : 0 ≤ g.tabs ∧ g.tabs ≤ 2
  c0 : ∀ i, some i ∈ g.code → i.sm
  w0 : ∀ p ∈ g.words, (0 ≤ p.1 ∧ p.1 ≤ 35) ∧ 0 ≤ p.2 ∧ p.2 ≤ 2 ^ 20
  k0 : ∀ p ∈ g.calls, (0 ≤ p.1 ∧ p.1 < (g.code.length : Int)) ∧ 0 ≤ p.2 ∧ p.2 < 2
structure GR (n : Nat) (g h : GS) : Prop where
  lf : h.left ≤ g.left
  dp : h.deep = g.deep
  sb : h.sub = g.sub
  len : g.code.length ≤ h.code.length
  pre : ∀ i, i < g.code.length → h.code[i]? = g.code[i]?
  pend : ∀ i, g.code.length ≤ i → h.code[i]? = some none → ∃ k, ((i : Int), k) ∈ h.calls
  kc : ∀ p ∈ g.calls, p ∈ h.calls
  zc : h.code.length + 10 * h.left.toNat ≤ g.code.length + 10 * g.left.toNat + n
  zw : h.words.length + 10 * h.left.toNat ≤ g.words.length + 10 * g.left.toNat + n
  zk : h.calls.length + 10 * h.left.toNat ≤ g.calls.length + 10 * g.left.toNat + n
structure Sz (g : GS) (n : Nat) : Prop where
  c : g.code.length + 10 * g.left.toNat + n ≤ 1000
  w : g.words.length + 10 * g.left.toNat + n ≤ 1000
  k : g.calls.length + 10 * g.left.toNat + n ≤ 1000
theorem GR.refl (g : GS) : GR 0 g g := ⟨Int.le_refl _, rfl, rfl, Nat.le_refl _, fun _ _ => rfl, fun i h e => (by rw [List.getElem?_eq_none h] at e; cases e), fun _ h => h, Nat.le_refl _, Nat.le_refl _, Nat.le_refl _⟩
theorem GR.trans {n m : Nat} {f g h : GS} (a : GR n f g) (b : GR m g h) : GR (n + m) f h := by
  refine ⟨Int.le_trans b.lf a.lf, b.dp.trans a.dp, b.sb.trans a.sb, Nat.le_trans a.len b.len, fun i hi => ?_, fun i hi e => ?_, fun p hp => b.kc p (a.kc p hp), ?_, ?_, ?_⟩
  · rw [b.pre i (Nat.lt_of_lt_of_le hi a.len), a.pre i hi]
  · by_cases h1 : i < g.code.length
    · rw [b.pre i h1] at e
      obtain ⟨k, hk⟩ := a.pend i hi e
      exact ⟨k, b.kc _ hk⟩
    · exact b.pend i (by omega) e
  · have := a.zc; have := b.zc; omega
  · have := a.zw; have := b.zw; omega
  · have := a.zk; have := b.zk; omega
theorem GR.up {n m : Nat} {g h : GS} (a : GR n g h) (hn : n ≤ m) : GR m g h := ⟨a.lf, a.dp, a.sb, a.len, a.pre, a.pend, a.kc, by have := a.zc; omega, by have := a.zw; omega, by have := a.zk; omega⟩
theorem Sz.of {n m j : Nat} {g h : GS} (s : Sz g n) (r : GR m g h) (hj : m + j ≤ n) : Sz h j := ⟨by have := s.c; have := r.zc; omega, by have := s.w; have := r.zw; omega, by have := s.k; have := r.zk; omega⟩
/-- an instruction is put -/
theorem GR.put {g : GS} (i : Ins) : GR 1 g { g with code := g.code ++ [some i] } := by
  refine ⟨Int.le_refl _, rfl, rfl, by simp, fun j hj => List.getElem?_append_left hj, fun j hj e => ?_, fun _ h => h, by simp only [List.length_append, List.length_singleton]; omega, by dsimp only; omega, by dsimp only; omega⟩
  dsimp only at e
  rw [List.getElem?_append_right hj] at e
  cases hh : j - g.code.length with
  | zero => rw [hh] at e; cases e
  | succ m => rw [hh] at e; cases e
theorem GOk.put {g : GS} (h : GOk g) {x : Option Ins} (hx : ∀ i, x = some i → i.sm) : GOk { g with code := g.code ++ [x] } := by
  refine ⟨h.l0, h.d0, h.t0, fun i hi => ?_, h.w0, fun p hp => ?_⟩
  · rcases List.mem_append.mp hi with z | z
    · exact h.c0 i z
    · exact hx i (List.mem_singleton.mp z).symm
  · have := h.k0 p hp
    simp only [List.length_append, List.length_singleton]
    omega
theorem ins4 {op : Str} {a b c : Int} (h1 : op ∉ s3) (h2 : op ∉ sJ) : (Ins.mk op a b c).D = .tuple [.str op, .int a, .int b, .int c] := by
  unfold Ins.D
  rw [if_neg (by rw [inS_no.mpr h1]; decide), if_neg (by rw [inS_no.mpr h2]; decide)]
theorem ins3 {op : Str} {a b c : Int} (h1 : op ∉ s3) (h2 : op ∈ sJ) : (Ins.mk op a b c).D = .tuple [.str op, .int a, .int b] := by
  unfold Ins.D
  rw [if_neg (by rw [inS_no.mpr h1]; decide), if_pos (inS_iff.mpr h2)]
theorem ins2 {op : Str} {a b c : Int} (h1 : op ∈ s3) : (Ins.mk op a b c).D = .tuple [.str op, .int a] := by
  unfold Ins.D
  rw [if_pos (inS_iff.mpr h1)]
theorem atI_int {ns : List Int} {k : Int} (h0 : 0 ≤ k) (h : k < (ns.length : Int)) : ∃ v ∈ ns, atI (ns.map PyData.int) k = some (.int v) := by
  have hl : k.toNat < ns.length := by omega
  exact ⟨ns[k.toNat], List.getElem_mem hl, atIp h0 (by rw [List.getElem?_map, List.getElem?_eq_getElem hl]; rfl)⟩
theorem atI_str {ns : List Str} {k : Int} (h0 : 0 ≤ k) (h : k < (ns.length : Int)) : ∃ v ∈ ns, atI (ns.map PyData.str) k = some (.str v) := by
  have hl : k.toNat < ns.length := by omega
  exact ⟨ns[k.toNat], List.getElem_mem hl, atIp h0 (by rw [List.getElem?_map, List.getElem?_eq_getElem hl]; rfl)⟩
section
variable {X : Cx} {a b e e0 e1 e2 e3 : Expr} {δ : Dl} {S : Sto} {pos : Pos} {R : SV → Sto → Prop}
/-- subscripts of plain lists, tuples, effects let in -/
theorem ew_ixD (h : EW X a δ S fun v S1 => EW X b δ S1 fun w S2 => ∃ ds i d, v = .d (.list ds) ∧ w = .d (.int i) ∧ atI ds i = some d ∧ R (.d d) S2) (hs : PlainIx b := by exact fun _ _ => rfl) : EW X (.Subscript a b pos) δ S R :=
  ew_tOp (pe_ix ix_list pw_e pw_e hs) (h.mono fun x S1 q => q.mono fun y S2 q O H F v w Q M rv rw' k => by
    obtain ⟨ds, i, d, rfl, rfl, h, q⟩ := q
    cases rw'
    cases rv with
    | @lst p xs _ ht hall =>
      unfold atI at h
      cases q2 : ixN ds.length i with
      | none => rw [q2] at h; cases h
      | some j =>
        rw [q2] at h
        obtain ⟨u, h1, h2⟩ := dpAll_get hall (show ds[j]? = some d from h)
        exact ⟨p, xs, i, u, rfl, rfl, M.fr.seq ht, by unfold atI; rw [dpAll_len hall, q2]; exact h1, k.dat M h2 q⟩)
theorem ew_i4 {n : Nat} (h : EW X e0 δ S fun v0 S0 => EW X e1 δ S0 fun v1 S1 => EW X e2 δ S1 fun v2 S2 => EW X e3 δ S2 fun v3 S3 => ∃ op a b c, v0 = .d (.str op) ∧ v1 = .d (.int a) ∧ v2 = .d (.int b) ∧ v3 = .d (.int c) ∧ op ∉ s3 ∧ op ∉ sJ ∧ R (.d (optI (some ⟨op, a, b, c⟩))) S3)
    (h0 : starEach [e0, e1, e2, e3] X.env = (false, eval e0 X.env) :: starEach [e1, e2, e3] X.env := by rfl) (h1 : starEach [e1, e2, e3] X.env = (false, eval e1 X.env) :: starEach [e2, e3] X.env := by rfl)
    (h2 : starEach [e2, e3] X.env = (false, eval e2 X.env) :: starEach [e3] X.env := by rfl) (h3 : starEach [e3] X.env = (false, eval e3 X.env) :: starEach [] X.env := by rfl) : EW X (.Tuple [e0, e1, e2, e3] n pos) δ S R :=
  ew_tup (aw_cons (h.mono fun v0 S0 h => aw_cons (h.mono fun v1 S1 h => aw_cons (h.mono fun v2 S2 h => aw_cons (h.mono fun v3 S3 h => aw_nil (by
    obtain ⟨op, a, b, c, rfl, rfl, rfl, rfl, n1, n2, h⟩ := h
    refine ⟨[.str op, .int a, .int b, .int c], rfl, sz_ok rfl, ?_⟩
    rw [← ins4 n1 n2]; exact h)) h3) h2) h1) h0)
end
section
variable {Z : Zx} {X : Cx} {N : List Str} {sc : Scope} {bs ls : List Bool} {gs : List Str} {k : Nat} [B : Bd Z X N sc bs ls gs k]
variable {a b e : Expr} {δ : Dl} {S S0 : Sto} {pos p1 p2 p3 px : Pos} {rest : List Stmt} {E : DE} {R : SV → Sto → Prop} {A : GP} {g : GS}
include B
theorem ev_gcode (hb : EV X b δ S (.r A.p)) (G : Gn A S0 S g) {j : Nat} : EV X (.Subscript b (.Constant (.str "code") j p1) p2) δ S (.r A.c) := ev_dget (kk := .inr "code") hb ev_str G.p rfl
theorem ev_gdraw (hb : EV X b δ S (.r A.p)) (G : Gn A S0 S g) {j : Nat} : EV X (.Subscript b (.Constant (.str "draw") j p1) p2) δ S (.r A.q) := ev_dget (kk := .inr "draw") hb ev_str G.p rfl
theorem ev_gwords (hb : EV X b δ S (.r A.p)) (G : Gn A S0 S g) {j : Nat} : EV X (.Subscript b (.Constant (.str "words") j p1) p2) δ S (.r A.w) := ev_dget (kk := .inr "words") hb ev_str G.p rfl
theorem ev_gcalls (hb : EV X b δ S (.r A.p)) (G : Gn A S0 S g) {j : Nat} : EV X (.Subscript b (.Constant (.str "calls") j p1) p2) δ S (.r A.k) := ev_dget (kk := .inr "calls") hb ev_str G.p rfl
theorem ev_gleft (hb : EV X b δ S (.r A.p)) (G : Gn A S0 S g) {j : Nat} : EV X (.Subscript b (.Constant (.str "left") j p1) p2) δ S (.d (.int g.left)) := ev_dget (kk := .inr "left") hb ev_str G.p rfl
theorem ev_gdeep (hb : EV X b δ S (.r A.p)) (G : Gn A S0 S g) {j : Nat} : EV X (.Subscript b (.Constant (.str "deep") j p1) p2) δ S (.d (.int g.deep)) := ev_dget (kk := .inr "deep") hb ev_str G.p rfl
theorem ev_gsub (hb : EV X b δ S (.r A.p)) (G : Gn A S0 S g) {j : Nat} : EV X (.Subscript b (.Constant (.str "sub") j p1) p2) δ S (.d (.bool g.sub)) := ev_dget (kk := .inr "sub") hb ev_str G.p rfl
theorem ev_gtabs (hb : EV X b δ S (.r A.p)) (G : Gn A S0 S g) {j : Nat} : EV X (.Subscript b (.Constant (.str "tables") j p1) p2) δ S (.d (.int g.tabs)) := ev_dget (kk := .inr "tables") hb ev_str G.p rfl
theorem ev_gclen (hb : EV X b δ S (.r A.p)) (G : Gn A S0 S g) {j : Nat} [h1 : GAt gs "len"] [h2 : Free Z "len"] (s1 : St1 X (.Subscript b (.Constant (.str "code") j p1) p2) := by exact rfl) : EV X (.Call (.Name "len" p3) [.Subscript b (.Constant (.str "code") j p1) p2] [] pos) δ S (.d (.int g.code.length)) :=
  EV.is (ev_lenO (ev_gcode hb G) G.c s1) (by rw [List.length_map, List.length_map])
end
section
variable {Z : Zx} [W : W0 Z]
abbrev cPut : Ct := fun xs S R => ∃ (A : GP) (g : GS) (x : Option Ins), xs = [.r A.p, .d (optI x)] ∧ Gn A S S g ∧ g.code.length < 10000 ∧ R (.d .none) (supd S A.c (codeL (g.code ++ [x])))
instance ok__law_put : HasFn Z "_law_put" ["_law_b", "_law_instruction"] 1 cPut := fn_intro sc__law_put nm__law_put (fun _ _ _ _ _ _ us hl => match us, hl with | [_, _], _ => rfl) (by tm_at "ctl") fun X B xs S R hc => by
  obtain ⟨A, g, x, rfl, G, hn, hR⟩ := hc
  refine sws_app (v := .d (optI x)) (ev_gcode (ev_var rfl) G) G.c (ev_var rfl) (by rw [List.length_map, List.length_map]; unfold sizeLine; omega) (sws_nil ?_)
  have e : (g.code.map optI).map SV.d ++ [SV.d (optI x)] = ((g.code ++ [x]).map optI).map SV.d := by simp
  rw [e]; exact hR
abbrev cReg : Ct := fun xs S R => ∃ (A : GP) (g : GS), xs = [.r A.p] ∧ Gn A S S g ∧ ∀ (r : Int) S', 2 ≤ r → r ≤ 9 → Gn A S S' g → R (.d (.int r)) S'
instance ok__law_register : HasFn Z "_law_register" ["_law_b"] 2 cReg := fn_intro sc__law_register nm__law_register (fun _ _ _ _ _ _ us hl => match us, hl with | [_], _ => rfl) (by tm_at "ctl") fun X B xs S R hc => by
  obtain ⟨A, g, rfl, G, hR⟩ := hc
  refine sws_one (sw_ret (ew_tOp (pe_op op_add pw_e pw_e) (ev_int.use (ew_call (by decide) (AV.use (av_cons (ev_gdraw (ev_var rfl) G) (av_cons ev_int av_nil)) ⟨A.q, 8, rfl, G.q, by decide, by decide, fun k S' h0 h1 hk hd => ?_⟩)))))
  exact bw_I0 (fun _ => .int _) (hR _ _ (by omega) (by omega) (G.draw hk hd))
end
section
variable {Z : Zx} [W : W0 Z] {X : Cx} {N : List Str} {sc : Scope} {bs ls : List Bool} {gs : List Str} {k : Nat} [B : Bd Z X N sc bs ls gs k]
variable {a b e : Expr} {δ : Dl} {S S0 : Sto} {pos p1 p2 p3 px : Pos} {rest : List Stmt} {E : DE} {R : SV → Sto → Prop} {A : GP} {g : GS}
include B
/-- take(b["draw"], m) -/
theorem ew_takeB [h1 : GAt gs "_law_take"] {j : Nat} {m : Int} (hb : EV X b δ S (.r A.p)) (G : Gn A S0 S g) (hm : EV X e δ S (.d (.int m))) (m1 : 1 ≤ m) (m2 : m < 2 ^ 40) (h : ∀ (k : Int) S', 0 ≤ k → k < m → Gn A S0 S' g → R (.d (.int k)) S') (hk : 1 ≤ k := by first | decide | omega)
    (s2 : St2 X (.Subscript b (.Constant (.str "draw") j p1) p2) e := by exact rfl) (s1 : St1 X e := by exact rfl) : EW X (.Call (.Name "_law_take" p3) [.Subscript b (.Constant (.str "draw") j p1) p2, e] [] pos) δ S R :=
  ew_call hk (AV.use (av_cons (ev_gdraw hb G) (av_cons hm av_nil s1) s2) ⟨A.q, m, rfl, G.q, m1, m2, fun k S' h0 h1 hk hd => h k S' h0 h1 (G.draw hk hd)⟩) s2 (by rw [s1]; rfl)
theorem ew_regB [h1 : GAt gs "_law_register"] (hb : EV X b δ S (.r A.p)) (G : Gn A S0 S g) (h : ∀ (r : Int) S', 2 ≤ r → r ≤ 9 → Gn A S0 S' g → R (.d (.int r)) S') (hk : 2 ≤ k := by first | decide | omega) (s1 : St1 X b := by exact rfl) : EW X (.Call (.Name "_law_register" p3) [b] [] pos) δ S R :=
  ew_call hk (AV.use (av_cons hb av_nil s1) ⟨A, g, rfl, G.self, fun r S' h0 h1 G' => h r S' h0 h1 (G.from G')⟩) s1 rfl
/-- put(b, e) -/
theorem sws_put [h1 : GAt gs "_law_put"] (hb : EV X b δ S (.r A.p)) (he : EW X e δ S fun v S1 => ∃ x g, v = .d (optI x) ∧ Gn A S0 S1 g ∧ g.code.length < 10000 ∧ ∀ S2, Gn A S0 S2 { g with code := g.code ++ [x] } → SWs X rest δ S2 E) (hk : 1 ≤ k := by first | decide | omega)
    (s2 : St2 X b e := by exact rfl) (s1 : St1 X e := by exact rfl) (hs : swapsWith (.Call (.Name "_law_put" p3) [b, e] [] pos) none px.line X.env = pure false := by rfl) : SWs X (.Expr (.Call (.Name "_law_put" p3) [b, e] [] pos) px :: rest) δ S E :=
  sws_cons (sw_expr (ew_call hk (aw_cons (hb.use (aw_cons (he.mono fun v S1 h => aw_nil (by
    obtain ⟨x, g, rfl, G, hn, h⟩ := h
    exact ⟨A, g, x, rfl, G.self, hn, h _ (G.code _)⟩)) s1)) s2) s2 (by rw [s1]; rfl)) hs)
end
end K23
/-! the law's own defs, 3: alu, access -/
namespace K23
open PySem PySem.Spec PyProof.Rows L2
section
variable {X : Cx} {a b e : Expr} {δ : Dl} {S : Sto} {pos : Pos} {R : SV → Sto → Prop}
theorem ew_addI (h : EW X a δ S fun v S1 => ∃ i, v = .d (.int i) ∧ EW X b δ S1 fun w S2 => ∃ j, w = .d (.int j) ∧ R (.d (.int (i + j))) S2) : EW X (.BinOp a .Add b pos) δ S R :=
  ew_tOp (pe_op op_add pw_e pw_e) (h.mono fun x S1 ⟨i, e1, h⟩ => h.mono fun y S2 ⟨j, e2, h⟩ => by subst e1; subst e2; exact bw_I0 (fun _ => .int _) h)
theorem ew_subI (h : EW X a δ S fun v S1 => ∃ i, v = .d (.int i) ∧ EW X b δ S1 fun w S2 => ∃ j, w = .d (.int j) ∧ R (.d (.int (i - j))) S2) : EW X (.BinOp a .Sub b pos) δ S R :=
  ew_tOp (pe_op op_sub pw_e pw_e) (h.mono fun x S1 ⟨i, e1, h⟩ => h.mono fun y S2 ⟨j, e2, h⟩ => by subst e1; subst e2; exact bw_I0 (fun _ => .int _) h)
theorem ew_mulI (h : EW X a δ S fun v S1 => ∃ i, v = .d (.int i) ∧ EW X b δ S1 fun w S2 => ∃ j, w = .d (.int j) ∧ CMul i j ∧ R (.d (.int (i * j))) S2) : EW X (.BinOp a .Mult b pos) δ S R :=
  ew_tOp (pe_op op_mul pw_e pw_e) (h.mono fun x S1 ⟨i, e1, h⟩ => h.mono fun y S2 ⟨j, e2, hc, h⟩ => by subst e1; subst e2; exact bw_I hc (fun _ => .int _) h)
theorem ew_fdivI (h : EW X a δ S fun v S1 => ∃ i, v = .d (.int i) ∧ EW X b δ S1 fun w S2 => ∃ j, w = .d (.int j) ∧ (0 < j ∧ j < 2 ^ 64) ∧ R (.d (.int (i / j))) S2) : EW X (.BinOp a .FloorDiv b pos) δ S R :=
  ew_tOp (pe_op op_fdivP pw_e pw_e) (h.mono fun x S1 ⟨i, e1, h⟩ => h.mono fun y S2 ⟨j, e2, hc, h⟩ => by subst e1; subst e2; exact bw_I hc (fun _ => .int _) h)
theorem bw_eqI {i j : Int} (h : R (.d (.bool (decide (i = j)))) S) : BW X rEq (.d (.int i)) (.d (.int j)) S R := fun O H F v w Q M rv rw' k => by
  cases rv; cases rw'
  exact ⟨rfl, k.dat M (show Dp X.K F (.bl (decide (V.int i = V.int j))) (.bool (decide (i = j))) by rw [dec_int]; exact Dp.bl _) h⟩
/-- a == j, effects of a let in -/
theorem tw_eqI {R : Bool → Sto → Prop} {j : Int} {n : Nat} {p : Pos} (h : EW X a δ S fun v S1 => ∃ i, v = .d (.int i) ∧ R (decide (i = j)) S1) (hm : behindInMarks .Eq (.Constant (.int j) n p) = false := by first | exact nobehind _ (by decide) (by decide) | rfl) : TW X (.Compare a [.Eq] [.Constant (.int j) n p] pos) δ S R :=
  tw_cmp (cw_tOp op_eq (h.mono fun v S1 ⟨i, e1, h⟩ => by subst e1; exact ev_int.use (bw_eqI ⟨_, rfl, h⟩))) hm
/-- a > j as a value -/
theorem ew_gtI {j : Int} {n : Nat} {p : Pos} (h : EW X a δ S fun v S1 => ∃ i, v = .d (.int i) ∧ R (.d (.bool (decide (j < i)))) S1) (hm : behindInMarks .Gt (.Constant (.int j) n p) = false := by first | exact nobehind _ (by decide) (by decide) | rfl) : EW X (.Compare a [.Gt] [.Constant (.int j) n p] pos) δ S R :=
  ew_cmp (cw_tOp op_gt (h.mono fun v S1 ⟨i, e1, h⟩ => by subst e1; exact ev_int.use (bw_I0 (fun _ => .bl _) h))) hm
theorem ifB {c : Bool} {P Q : Prop} (h1 : c = true → P) (h2 : c = false → Q) : if c = true then P else Q := by
  cases c with
  | true => rw [if_pos rfl]; exact h1 rfl
  | false => rw [if_neg Bool.false_ne_true]; exact h2 rfl
end
def GPost (A : GP) (S : Sto) (g : GS) (n : Nat) (R : SV → Sto → Prop) : Prop := ∀ S' g', Gn A S S' g' → GOk g' → GR n g g' → R (.d .none) S'
def lops : List Str := ["add", "sub", "and", "xor", "mul", "or", "shl", "shr", "sar", "slt", "sltu", "divu", "remu"]
abbrev okOp (op : Str) : Prop := op ∉ s3 ∧ op ∉ sJ ∧ op ∈ ops38
theorem lops_ok : ∀ op ∈ lops, okOp op := by decide +kernel
theorem imm8_ok : ∀ op ∈ imm8, okOp op := by decide +kernel
theorem lb_ok : ∀ op ∈ (["lb", "lbu"] : List Str), okOp op := by decide +kernel
theorem mm_ok : ∀ op ∈ (["lw", "sw", "sb", "lbu"] : List Str), okOp op := by decide +kernel
theorem br_ok : ∀ op ∈ br6, okOp op := by decide +kernel
theorem dir_ok : ∀ op ∈ (["sw", "lw", "sb", "addi", "andi", "add", "jalr", "bne"] : List Str), okOp op := by decide +kernel
theorem j_ok : ∀ op ∈ (["lui", "jal"] : List Str), op ∉ s3 ∧ op ∈ sJ ∧ op ∈ ops38 := by decide +kernel
theorem s_ok : ∀ op ∈ (["put", "get", "exit"] : List Str), op ∈ s3 ∧ op ∈ ops38 := by decide +kernel
theorem sm_of {op : Str} {a b c : Int} (h : op ∈ ops38) (ha : a.natAbs < 2 ^ 64) (hb : b.natAbs < 2 ^ 64) (hc : c.natAbs < 2 ^ 64) : (Ins.mk op a b c).sm := ⟨h, ha, hb, hc⟩
section
variable {Z : Zx} [W : W0 Z] {X : Cx} {N : List Str} {sc : Scope} {bs ls : List Bool} {gs : List Str} {k : Nat} [B : Bd Z X N sc bs ls gs k]
variable {b e0 e1 e2 e3 : Expr} {δ : Dl} {S S0 : Sto} {pos p3 px : Pos} {rest : List Stmt} {E : DE} {A : GP} {g : GS}
include B
/-- put(b, (op, x, y, z)) -/
theorem sws_put4 [h1 : GAt gs "_law_put"] {n : Nat} (hb : EV X b δ S (.r A.p)) (h : EW X e0 δ S fun v0 S1 => EW X e1 δ S1 fun v1 S2 => EW X e2 δ S2 fun v2 S3 => EW X e3 δ S3 fun v3 S4 => ∃ op a b c, v0 = .d (.str op) ∧ v1 = .d (.int a) ∧ v2 = .d (.int b) ∧ v3 = .d (.int c) ∧ okOp op ∧ (a.natAbs < 2 ^ 64 ∧ b.natAbs < 2 ^ 64 ∧ c.natAbs < 2 ^ 64) ∧ Gn A S0 S4 g)
    (hok : GOk g) (hs : Sz g 1) (hk' : ∀ i S5, Gn A S0 S5 { g with code := g.code ++ [some i] } → GOk { g with code := g.code ++ [some i] } → GR 1 g { g with code := g.code ++ [some i] } → SWs X rest δ S5 E) (hk : 1 ≤ k := by first | decide | omega)
    (h0 : starEach [e0, e1, e2, e3] X.env = (false, eval e0 X.env) :: starEach [e1, e2, e3] X.env := by rfl) (h1 : starEach [e1, e2, e3] X.env = (false, eval e1 X.env) :: starEach [e2, e3] X.env := by rfl)
    (h2 : starEach [e2, e3] X.env = (false, eval e2 X.env) :: starEach [e3] X.env := by rfl) (h3 : starEach [e3] X.env = (false, eval e3 X.env) :: starEach [] X.env := by rfl)
    (s2 : St2 X b (.Tuple [e0, e1, e2, e3] n pos) := by exact rfl) {pp : Pos} :
    SWs X (.Expr (.Call (.Name "_law_put" p3) [b, .Tuple [e0, e1, e2, e3] n pos] [] pp) px :: rest) δ S E :=
  sws_put (S0 := S0) hb (ew_i4 (h.mono fun v0 S1 h => h.mono fun v1 S2 h => h.mono fun v2 S3 h => h.mono fun v3 S4 h => by
    obtain ⟨op, a, b, c, e0, e1, e2, e3, ⟨o1, o2, o3⟩, ⟨z1, z2, z3⟩, G⟩ := h
    exact ⟨op, a, b, c, e0, e1, e2, e3, o1, o2, some ⟨op, a, b, c⟩, g, rfl, G, by have := hs.c; omega, fun S5 G5 => hk' _ S5 G5 (hok.put fun j e => by cases e; exact sm_of o3 z1 z2 z3) (GR.put _)⟩) h0 h1 h2 h3) hk s2 rfl rfl
end
section
variable {Z : Zx} [W : W0 Z]
abbrev cAluG : Ct := fun xs S R => ∃ (A : GP) (g : GS), xs = [.r A.p] ∧ Gn A S S g ∧ GOk g ∧ Sz g 1 ∧ GPost A S g 1 R
instance ok__law_alu : HasFn Z "_law_alu" ["_law_b"] 3 cAluG := fn_intro sc__law_alu nm__law_alu (fun _ _ _ _ _ _ us hl => match us, hl with | [_], _ => rfl) (by tm_at "ctl") fun X B xs S R hc => by
  obtain ⟨A, g, rfl, G, hok, hsz, hR⟩ := hc
  refine sws_cons (sw_set (ew_takeB (ev_var rfl) G ev_int (by decide) (by decide) fun k S1 k0 k1 G1 => ?_))
  refine sws_setV (v := .d (.list (lops.map PyData.str))) (ev_lst (by tm_at "av") rfl rfl) ?_
  refine sws_one (sw_ifW (tw_eqI (ew_takeB (ev_var rfl) G1 ev_int (by decide) (by decide) fun k2 S2 k20 k21 G2 => ⟨k2, rfl, ifB (fun h => ?_) fun h => ?_⟩)))
  · obtain ⟨op, hop, hat⟩ := atI_str (ns := lops) k0 k1
    exact sws_put4 (S0 := S) (ev_var rfl) ((ev_ixL (ds := lops.map PyData.str) (by tm_at "ev") (by tm_at "ev") hat).use (ew_regB (ev_var rfl) G2 fun r1 S3 a0 a1 G3 => ew_regB (ev_var rfl) G3 fun r2 S4 b0 b1 G4 => ew_regB (ev_var rfl) G4 fun r3 S5 c0 c1 G5 =>
      ⟨op, r1, r2, r3, rfl, rfl, rfl, rfl, lops_ok op hop, ⟨by omega, by omega, by omega⟩, G5⟩)) hok hsz fun i S8 G8 ok8 gr8 => sws_nil (hR _ _ G8 ok8 gr8)
  · refine sws_setV (v := .d (.list (imm8.map PyData.str))) (ev_lst (by tm_at "av") rfl rfl) ?_
    refine sws_cons <| sw_set <| ew_ixD <| ew_lst <| aw_cons <| ev_int.use <| aw_cons <| EV.use (ev_neg ev_int) <| aw_cons <| ev_int.use <| aw_cons <| ev_int.use <| aw_cons <| ev_int.use <| aw_cons <| ew_subI <| ew_takeB (ev_var rfl) G2 ev_int (by decide) (by decide) fun i S3 i0 i1 G3 => ⟨i, rfl, ev_int.use ⟨8192, rfl, aw_nil ⟨[1, -1, 4, 255, 0, i - 8192].map PyData.int, rfl, sz_ok rfl, ?_⟩⟩⟩
    refine ew_takeB (ev_var rfl) G3 ev_int (by decide) (by decide) fun j S4 j0 j1 G4 => ?_
    obtain ⟨imm, him, hat⟩ := atI_int (ns := [1, -1, 4, 255, 0, i - 8192]) j0 j1
    refine ⟨_, j, _, rfl, rfl, hat, ?_⟩
    have hb : imm.natAbs < 2 ^ 64 := by
      simp only [List.mem_cons, List.not_mem_nil, or_false] at him
      omega
    clear hat him
    refine sws_cons <| sw_set <| ew_ixD <| ew_lst <| aw_cons <| ev_int.use <| aw_cons <| ew_regB (ev_var rfl) G4 fun r S5 r0 r1 G5 => aw_nil ⟨[0, r].map PyData.int, rfl, sz_ok rfl, ?_⟩
    refine ew_intB (ew_gtI (ew_takeB (ev_var rfl) G5 ev_int (by decide) (by decide) fun t S6 t0 t1 G6 => ⟨t, rfl, _, rfl, ?_⟩))
    obtain ⟨fs, hfs, hat⟩ := atI_int (ns := [0, r]) (k := if decide (0 < t) = true then 1 else 0) (by split <;> decide) (by show _ < ((2 : Nat) : Int); split <;> decide)
    refine ⟨_, _, _, rfl, rfl, hat, ?_⟩
    have hb2 : fs.natAbs < 2 ^ 64 := by
      simp only [List.mem_cons, List.not_mem_nil, or_false] at hfs
      omega
    clear hat hfs
    obtain ⟨op, hop, hat⟩ := atI_str (ns := imm8) (k := k % 8) (by omega) (by show k % 8 < 8; omega)
    exact sws_put4 (S0 := S) (ev_var rfl) ((ev_ixL (ds := imm8.map PyData.str) (by tm_at "ev") (ev_mod (ev_int1 (by tm_at "ev")) ev_int (by decide)) hat).use (ew_regB (ev_var rfl) G6 fun r1 S7 a0 a1 G7 => (ev_var rfl).use ((ev_var rfl).use
      ⟨op, r1, fs, imm, rfl, rfl, rfl, rfl, imm8_ok op hop, ⟨by omega, hb2, hb⟩, G7⟩))) hok hsz fun i S8 G8 ok8 gr8 => sws_nil (hR _ _ G8 ok8 gr8)
instance ok__law_access : HasFn Z "_law_access" ["_law_b"] 3 cAluG := fn_intro sc__law_access nm__law_access (fun _ _ _ _ _ _ us hl => match us, hl with | [_], _ => rfl) (by tm_at "ctl") fun X B xs S R hc => by
  obtain ⟨A, g, rfl, G, hok, hsz, hR⟩ := hc
  have ops := dir_ok
  have osw : okOp "sw" := dir_ok _ (by decide)
  have olw : okOp "lw" := dir_ok _ (by decide)
  have osb : okOp "sb" := dir_ok _ (by decide)
  refine sws_cons (sw_set (ew_takeB (ev_var rfl) G ev_int (by decide) (by decide) fun k S1 k0 k1 G1 => ?_))
  refine sws_cons <| sw_set <| ew_mulI <| ev_int.use ⟨4, rfl, ew_takeB (ev_var rfl) G1 ev_int (by decide) (by decide) fun t S2 t0 t1 G2 => ⟨t, rfl, .inl ⟨by decide, by decide⟩, ?_⟩⟩
  refine sws_one (sw_if (x := decide (k < 3)) (by tm_at "tv") (fun h => ?_) fun h => sws_one (sw_if (x := decide (k < 6)) (by tm_at "tv") (fun h => ?_) fun h => sws_one (sw_if (x := decide (k = 6)) (by tm_at "tv") (fun h => ?_) fun h => sws_one (sw_if (x := decide (k = 7)) (by tm_at "tv") (fun h => ?_) fun h => sws_one (sw_if (x := decide (k = 8)) (by tm_at "tv") (fun h => ?_) fun h => ?_)))))
  · exact sws_put4 (S0 := S) (ev_var rfl) (ev_str.use <| ew_regB (ev_var rfl) G2 fun r S3 r0 r1 G3 => ev_int.use <| (ev_var rfl).use
      ⟨_, r, 10, 4 * t, rfl, rfl, rfl, rfl, osw, ⟨by omega, by omega, by omega⟩, G3⟩) hok hsz fun i S8 G8 ok8 gr8 => sws_nil (hR _ _ G8 ok8 gr8)
  · exact sws_put4 (S0 := S) (ev_var rfl) (ev_str.use <| ew_regB (ev_var rfl) G2 fun r S3 r0 r1 G3 => ev_int.use <| (ev_var rfl).use
      ⟨_, r, 10, 4 * t, rfl, rfl, rfl, rfl, olw, ⟨by omega, by omega, by omega⟩, G3⟩) hok hsz fun i S8 G8 ok8 gr8 => sws_nil (hR _ _ G8 ok8 gr8)
  · refine sws_put4 (S0 := S) (ev_var rfl) (ew_ixD <| EV.use (ev_lst (ds := (["lb", "lbu"] : List Str).map PyData.str) (by tm_at "av") rfl rfl) <| ew_takeB (ev_var rfl) G2 ev_int (by decide) (by decide) fun j S3 j0 j1 G3 => ?_) hok hsz fun i S8 G8 ok8 gr8 => sws_nil (hR _ _ G8 ok8 gr8)
    obtain ⟨op, hop, hat⟩ := atI_str (ns := ["lb", "lbu"]) j0 j1
    exact ⟨_, j, _, rfl, rfl, hat, ew_regB (ev_var rfl) G3 fun r S4 r0 r1 G4 => ev_int.use <| ew_addI <| (ev_var rfl).use ⟨_, rfl, ew_takeB (ev_var rfl) G4 ev_int (by decide) (by decide) fun u S5 u0 u1 G5 =>
      ⟨u, rfl, op, r, 10, 4 * t + u, rfl, rfl, rfl, rfl, lb_ok op hop, ⟨by omega, by omega, by omega⟩, G5⟩⟩⟩
  · exact sws_put4 (S0 := S) (ev_var rfl) (ev_str.use <| ew_regB (ev_var rfl) G2 fun r S4 r0 r1 G4 => ev_int.use <| ew_addI <| (ev_var rfl).use ⟨_, rfl, ew_takeB (ev_var rfl) G4 ev_int (by decide) (by decide) fun u S5 u0 u1 G5 =>
      ⟨u, rfl, _, r, 10, 4 * t + u, rfl, rfl, rfl, rfl, osb, ⟨by omega, by omega, by omega⟩, G5⟩⟩) hok hsz fun i S8 G8 ok8 gr8 => sws_nil (hR _ _ G8 ok8 gr8)
  · exact sws_put4 (S0 := S) (ev_var rfl) (ev_str.use <| ew_regB (ev_var rfl) G2 fun r S4 r0 r1 G4 => ev_int.use <| ew_mulI <| ev_int.use ⟨4, rfl, ew_takeB (ev_var rfl) G4 ev_int (by decide) (by decide) fun u S5 u0 u1 G5 =>
      ⟨u, rfl, .inl ⟨by decide, by decide⟩, _, r, 13, 4 * u, rfl, rfl, rfl, rfl, olw, ⟨by omega, by omega, by omega⟩, G5⟩⟩) hok hsz fun i S8 G8 ok8 gr8 => sws_nil (hR _ _ G8 ok8 gr8)
  · refine sws_cons <| sw_set <| ew_lst <| aw_cons <| ev_int.use <| aw_cons <| ev_int.use <| aw_cons <| ev_int.use <| aw_cons <| ev_int.use <| aw_cons <| ew_regB (ev_var rfl) G2 fun r S3 r0 r1 G3 => aw_nil ⟨[10, 13, 10, 0, r].map PyData.int, rfl, sz_ok rfl, ?_⟩
    refine sws_put4 (S0 := S) (ev_var rfl) (ew_ixD <| EV.use (ev_lst (ds := (["lw", "sw", "sb", "lbu"] : List Str).map PyData.str) (by tm_at "av") rfl rfl) <| ew_takeB (ev_var rfl) G3 ev_int (by decide) (by decide) fun j S4 j0 j1 G4 => ?_) hok hsz fun i S8 G8 ok8 gr8 => sws_nil (hR _ _ G8 ok8 gr8)
    obtain ⟨op, hop, hat⟩ := atI_str (ns := ["lw", "sw", "sb", "lbu"]) j0 j1
    refine ⟨_, j, _, rfl, rfl, hat, ew_regB (ev_var rfl) G4 fun r2 S5 a0 a1 G5 => ew_ixD <| EV.use (ev_var rfl) <| ew_takeB (ev_var rfl) G5 ev_int (by decide) (by decide) fun y S6 y0 y1 G6 => ?_⟩
    obtain ⟨bs, hbs, hat2⟩ := atI_int (ns := [10, 13, 10, 0, r]) y0 y1
    have hb : bs.natAbs < 2 ^ 64 := by
      simp only [List.mem_cons, List.not_mem_nil, or_false] at hbs
      omega
    exact ⟨_, y, _, rfl, rfl, hat2, ew_subI <| ew_takeB (ev_var rfl) G6 ev_int (by decide) (by decide) fun u S7 u0 u1 G7 => ⟨u, rfl, ev_int.use ⟨8, rfl, op, r2, bs, u - 8, rfl, rfl, rfl, rfl, mm_ok op hop, ⟨by omega, hb, by omega⟩, G7⟩⟩⟩
end
end K23
/-! the law's own defs, 4: branch, loop, jump, some -/
namespace K23
open PySem PySem.Spec PyProof.Rows L2
theorem ixN_nat' {n j : Nat} (hj : j < n) : ixN n (j : Int) = some j := by
  unfold ixN
  rw [if_pos (by omega), if_pos (by omega)]; simp
section
variable {g h : GS} {n : Nat}
theorem GR.left (r : GR n g h) (d : Int) : GR n g h := r
theorem GR.deep {d : Int} (r : GR n { g with deep := d } h) : GR n g { h with deep := g.deep } := ⟨r.lf, rfl, r.sb, r.len, r.pre, r.pend, r.kc, r.zc, r.zw, r.zk⟩
theorem GR.tabs (t : Int) : GR 0 g { g with tabs := t } := ⟨Int.le_refl _, rfl, rfl, Nat.le_refl _, fun _ _ => rfl, fun i h e => (by rw [List.getElem?_eq_none h] at e; cases e), fun _ h => h, Nat.le_refl _, Nat.le_refl _, Nat.le_refl _⟩
theorem GR.wapp (p : Int × Int) : GR 1 g { g with words := g.words ++ [p] } := ⟨Int.le_refl _, rfl, rfl, Nat.le_refl _, fun _ _ => rfl, fun i h e => (by rw [List.getElem?_eq_none h] at e; cases e), fun _ h => h, (by dsimp only; omega), (by simp only [List.length_append, List.length_singleton]; omega), (by dsimp only; omega)⟩
theorem GR.call (k : Int) : GR 1 g { g with code := g.code ++ [none], calls := g.calls ++ [((g.code.length : Int), k)] } := by
  refine ⟨Int.le_refl _, rfl, rfl, by simp, fun j hj => List.getElem?_append_left hj, fun j hj e => ?_, fun p hp => List.mem_append_left _ hp, by simp only [List.length_append, List.length_singleton]; omega, by dsimp only; omega, by simp only [List.length_append, List.length_singleton]; omega⟩
  dsimp only at e
  rw [List.getElem?_append_right hj] at e
  cases hh : j - g.code.length with
  | zero =>
    have : j = g.code.length := by omega
    exact ⟨k, by rw [this]; exact List.mem_append_right _ (List.mem_singleton.mpr rfl)⟩
  | succ m => rw [hh] at e; cases e
theorem GR.fix (r : GR n { g with code := g.code ++ [none] } h) (x : Ins) : GR (n + 1) g { h with code := h.code.set g.code.length (some x) } := by
  have hl := r.len
  simp only [List.length_append, List.length_singleton] at hl
  refine ⟨r.lf, r.dp, r.sb, by dsimp only; rw [List.length_set]; omega, fun j hj => ?_, fun j hj e => ?_, r.kc, ?_, ?_, ?_⟩
  · dsimp only
    rw [List.getElem?_set_ne (by omega), r.pre j (by simp only [List.length_append, List.length_singleton]; omega)]
    exact List.getElem?_append_left hj
  · dsimp only at e ⊢
    by_cases hj2 : g.code.length = j
    · rw [hj2, List.getElem?_set_self (by omega)] at e
      cases e
    · rw [List.getElem?_set_ne hj2] at e
      exact r.pend j (by simp only [List.length_append, List.length_singleton]; omega) e
  · have := r.zc
    simp only [List.length_append, List.length_singleton] at this
    dsimp only
    rw [List.length_set]; omega
  · have := r.zw
    dsimp only at this ⊢
    omega
  · have := r.zk
    dsimp only at this ⊢
    omega
theorem GR.dec (hl : 0 < g.left) (r : GR n { g with left := g.left - 1 } h) (hn : n ≤ 10) : GR 0 g h := by
  refine ⟨by have := r.lf; dsimp only at this; omega, r.dp, r.sb, r.len, r.pre, r.pend, r.kc, ?_, ?_, ?_⟩
  · have := r.zc; dsimp only at this; omega
  · have := r.zw; dsimp only at this; omega
  · have := r.zk; dsimp only at this; omega
theorem Sz.dec (hl : 0 < g.left) (s : Sz g 0) : Sz { g with left := g.left - 1 } 10 := ⟨by have := s.c; dsimp only; omega, by have := s.w; dsimp only; omega, by have := s.k; dsimp only; omega⟩
theorem Sz.app {x : Option Ins} (s : Sz g (n + 1)) : Sz { g with code := g.code ++ [x] } n := ⟨by have := s.c; simp only [List.length_append, List.length_singleton]; omega, by have := s.w; dsimp only; omega, by have := s.k; dsimp only; omega⟩
theorem Sz.le {m : Nat} (s : Sz g n) (hm : m ≤ n) : Sz g m := ⟨by have := s.c; omega, by have := s.w; omega, by have := s.k; omega⟩
theorem GOk.left (o : GOk g) (hl : 0 < g.left) : GOk { g with left := g.left - 1 } := ⟨by dsimp only; omega, o.d0, o.t0, o.c0, o.w0, o.k0⟩
theorem GOk.fix (o : GOk h) {j : Nat} {x : Ins} (hx : x.sm) : GOk { h with code := h.code.set j (some x) } := by
  refine ⟨o.l0, o.d0, o.t0, fun i hi => ?_, o.w0, fun p hp => by dsimp only; rw [List.length_set]; exact o.k0 p hp⟩
  rcases List.mem_or_eq_of_mem_set hi with z | z
  · exact o.c0 i z
  · cases z; exact hx
theorem GOk.wapp (o : GOk g) {p : Int × Int} (hp : (0 ≤ p.1 ∧ p.1 ≤ 35) ∧ 0 ≤ p.2 ∧ p.2 ≤ 2 ^ 20) : GOk { g with words := g.words ++ [p] } := by
  refine ⟨o.l0, o.d0, o.t0, o.c0, fun q hq => ?_, o.k0⟩
  rcases List.mem_append.mp hq with z | z
  · exact o.w0 q z
  · rw [List.mem_singleton.mp z]; exact hp
theorem GOk.call (o : GOk g) {k : Int} (hk : 0 ≤ k ∧ k < 2) : GOk { g with code := g.code ++ [none], calls := g.calls ++ [((g.code.length : Int), k)] } := by
  refine ⟨o.l0, o.d0, o.t0, fun i hi => ?_, o.w0, fun q hq => ?_⟩
  · rcases List.mem_append.mp hi with z | z
    · exact o.c0 i z
    · cases List.mem_singleton.mp z
  · simp only [List.length_append, List.length_singleton]
    rcases List.mem_append.mp hq with z | z
    · have := o.k0 q z
      omega
    · rw [List.mem_singleton.mp z]
      exact ⟨⟨by omega, by dsimp only; omega⟩, hk⟩
end
abbrev cSome (n : Int) : Ct := fun xs S R => ∃ (A : GP) (g : GS) (m : Int), xs = [.r A.p, .d (.int m)] ∧ (0 ≤ m ∧ m ≤ 100) ∧ Gn A S S g ∧ GOk g ∧ Sz g 0 ∧ g.left ≤ n ∧ GPost A S g 0 R
abbrev cNest (n : Int) : Ct := fun xs S R => ∃ (A : GP) (g : GS), xs = [.r A.p] ∧ Gn A S S g ∧ GOk g ∧ Sz g 9 ∧ g.left ≤ n ∧ GPost A S g 9 R
section
variable {Z : Zx} [W : W0 Z] {X : Cx} {N : List Str} {sc : Scope} {bs ls : List Bool} {gs : List Str} {k : Nat} [B : Bd Z X N sc bs ls gs k]
variable {b e e0 e1 e2 e3 : Expr} {δ : Dl} {S S0 : Sto} {pos p1 p2 p3 p4 px : Pos} {rest : List Stmt} {E : DE} {A : GP} {g : GS} {n : Int}
include B
/-- some(b, e) -/
theorem sws_some {j : Nat} [h1 : GAt gs "_law_some"] (hs : HasFn Z "_law_some" ["_law_b", "_law_many"] j (cSome n)) (hj : j ≤ k) (hb : EV X b δ S (.r A.p)) (he : EW X e δ S fun v S1 => ∃ m g, v = .d (.int m) ∧ (0 ≤ m ∧ m ≤ 100) ∧ Gn A S0 S1 g ∧ GOk g ∧ Sz g 0 ∧ g.left ≤ n ∧ ∀ S2 h, Gn A S0 S2 h → GOk h → GR 0 g h → SWs X rest δ S2 E)
    (s2 : St2 X b e := by exact rfl) (s1 : St1 X e := by exact rfl) (hsw : swapsWith (.Call (.Name "_law_some" p3) [b, e] [] pos) none px.line X.env = pure false := by rfl) : SWs X (.Expr (.Call (.Name "_law_some" p3) [b, e] [] pos) px :: rest) δ S E :=
  sws_cons (sw_expr (ew_call (h := hs) hj (aw_cons (hb.use (aw_cons (he.mono fun v S1 h => aw_nil (by
    obtain ⟨m, g, rfl, hm, G, ok, sz, hl, h⟩ := h
    exact ⟨A, g, m, rfl, hm, G.self, ok, sz, hl, fun S2 g' G' ok' r' => h S2 g' (G.from G') ok' r'⟩)) s1)) s2) s2 (by rw [s1]; rfl)) hsw)
/-- f(b), f one of branch, loop, jump -/
theorem sws_nest {x : Str} {j : Nat} [h1 : GAt gs x] (hs : HasFn Z x ["_law_b"] j (cNest n)) (hj : j ≤ k) (hb : EV X b δ S (.r A.p)) (G : Gn A S0 S g) (ok : GOk g) (sz : Sz g 9) (hl : g.left ≤ n) (h : ∀ S2 h, Gn A S0 S2 h → GOk h → GR 9 g h → SWs X rest δ S2 E)
    (s1 : St1 X b := by exact rfl) (hsw : swapsWith (.Call (.Name x p3) [b] [] pos) none px.line X.env = pure false := by rfl) : SWs X (.Expr (.Call (.Name x p3) [b] [] pos) px :: rest) δ S E :=
  sws_cons (sw_expr (ew_call (h := hs) hj (AV.use (av_cons hb av_nil s1) ⟨A, g, rfl, G.self, ok, sz, hl, fun S2 g' G' ok' r' => h S2 g' (G.from G') ok' r'⟩) s1 rfl) hsw)
theorem sws_alu {x : Str} [h1 : GAt gs x] [hs : HasFn Z x ["_law_b"] 3 cAluG] (hb : EV X b δ S (.r A.p)) (G : Gn A S0 S g) (ok : GOk g) (sz : Sz g 1) (h : ∀ S2 h, Gn A S0 S2 h → GOk h → GR 1 g h → SWs X rest δ S2 E) (hj : 3 ≤ k := by first | decide | omega)
    (s1 : St1 X b := by exact rfl) (hsw : swapsWith (.Call (.Name x p3) [b] [] pos) none px.line X.env = pure false := by rfl) : SWs X (.Expr (.Call (.Name x p3) [b] [] pos) px :: rest) δ S E :=
  sws_cons (sw_expr (ew_call (h := hs) hj (AV.use (av_cons hb av_nil s1) ⟨A, g, rfl, G.self, ok, sz, fun S2 g' G' ok' r' => h S2 g' (G.from G') ok' r'⟩) s1 rfl) hsw)
/-- b["left"] = e and its like -/
theorem sws_fld {l d t : Int} {sb : Bool} {z : Str} {v : SV} {j : Nat} (he : EV X e δ S v) (hb : EV X b δ S (.r A.p)) (G : Gn A S0 S g) (hp : putS (Gb A g) (.inr z) v = Gb A { g with left := l, deep := d, sub := sb, tabs := t }) (h : ∀ S2, Gn A S0 S2 { g with left := l, deep := d, sub := sb, tabs := t } → SWs X rest δ S2 E)
    (hs : swapsWith e (some (.Subscript b (.Constant (.str z) j p1) px)) pos.line X.env = pure false := by rfl) : SWs X (.Assign [.Subscript b (.Constant (.str z) j p1) px] e pos :: rest) δ S E :=
  sws_dputV (kk := .inr z) he hb ev_str G.p (by exact (by decide : (8 : Nat) < sizeLine)) (by rw [hp]; exact h _ (G.fld l d sb t)) hs
/-- b["code"][i] = e -/
theorem sws_fix {j : Nat} {i : Nat} {x : Ins} (he : EV X e δ S (.d (optI (some x)))) (hb : EV X b δ S (.r A.p)) (hi : EV X e0 δ S (.d (.int (i : Int)))) (G : Gn A S0 S g) (hl : i < g.code.length) (h : ∀ S2, Gn A S0 S2 { g with code := g.code.set i (some x) } → SWs X rest δ S2 E)
    (ha : ∀ v, assign (.Subscript (.Subscript b (.Constant (.str "code") j p1) p2) e0 px) X.env v = (do
      let ov ← holding [v] (eval (.Subscript b (.Constant (.str "code") j p1) p2) X.env)
      let iv ← holding [v, ov] (eval e0 X.env)
      standAt px
      holding [v, ov, iv] (setItem ov iv v)
      release [v, ov, iv] []) := by intro _; rfl)
    (hs : swapsWithSole [.Subscript (.Subscript b (.Constant (.str "code") j p1) p2) e0 px] e pos.line X.env = pure false := by rfl) (hw : swappedStores [.Subscript (.Subscript b (.Constant (.str "code") j p1) p2) e0 px] e X.env = pure none := by rfl)
    (h2 : (assignEach [.Subscript (.Subscript b (.Constant (.str "code") j p1) p2) e0 px] X.env).map (·.2) = [assign (.Subscript (.Subscript b (.Constant (.str "code") j p1) p2) e0 px) X.env] := by rfl) :
    SWs X (.Assign [.Subscript (.Subscript b (.Constant (.str "code") j p1) p2) e0 px] e pos :: rest) δ S E :=
  sws_setO (j := i) he (ev_gcode hb G) hi G.c (by rw [List.length_map, List.length_map]; exact ixN_nat' hl) (by
    have z := h _ (G.code (g.code.set i (some x)))
    unfold codeL at z
    rw [List.map_set, List.map_set] at z
    exact z) ha hs hw h2
/-- b["words"].append(e) -/
theorem sws_wapp {j : Nat} {p : Int × Int} (hb : EV X b δ S (.r A.p)) (he : EV X e δ S (.d (prD p))) (G : Gn A S0 S g) (hl : g.words.length ≤ 1000) (h : ∀ S2, Gn A S0 S2 { g with words := g.words ++ [p] } → SWs X rest δ S2 E)
    (s1 : St1 X e := by exact rfl) (hbase : attributeBase (.Subscript b (.Constant (.str "words") j p1) p2) "append" X.env (eval (.Subscript b (.Constant (.str "words") j p1) p2) X.env) = eval (.Subscript b (.Constant (.str "words") j p1) p2) X.env := by rfl)
    (hfew : ((backTo pos (starEach [e] X.env)).all (fun x => !x.1) && (backToKw pos (keywordEach [] X.env)).all (fun x => x.1.isSome) && decide (([e] : List Expr).length + ([] : List Keyword).length + (if ([] : List Keyword).isEmpty then 0 else 1) < 30)) = true := by rfl)
    (hline : (p3.endLine == pos.line) = true := by rfl) (hs : swapsWith (.Call (.Attribute (.Subscript b (.Constant (.str "words") j p1) p2) "append" p3) [e] [] pos) none p4.line X.env = pure false := by rfl) :
    SWs X (.Expr (.Call (.Attribute (.Subscript b (.Constant (.str "words") j p1) p2) "append" p3) [e] [] pos) p4 :: rest) δ S E :=
  sws_app (ev_gwords hb G) G.w he (by rw [List.length_map, List.length_map]; unfold sizeLine; omega) (by
    have z := h _ (G.words (g.words ++ [p]))
    unfold prL at z
    rw [List.map_append, List.map_append] at z
    exact z) s1 hbase hfew hline hs
/-- put(b, (op, x, y)), put(b, (op, x)) -/
theorem sws_put3 [h1 : GAt gs "_law_put"] {m : Nat} (hb : EV X b δ S (.r A.p)) (h : EW X e0 δ S fun v0 S1 => EW X e1 δ S1 fun v1 S2 => EW X e2 δ S2 fun v2 S3 => ∃ op a b, v0 = .d (.str op) ∧ v1 = .d (.int a) ∧ v2 = .d (.int b) ∧ (op ∉ s3 ∧ op ∈ sJ ∧ op ∈ ops38) ∧ (a.natAbs < 2 ^ 64 ∧ b.natAbs < 2 ^ 64) ∧ Gn A S0 S3 g)
    (hok : GOk g) (hs : Sz g 1) (hk' : ∀ i S5, Gn A S0 S5 { g with code := g.code ++ [some i] } → GOk { g with code := g.code ++ [some i] } → GR 1 g { g with code := g.code ++ [some i] } → SWs X rest δ S5 E) (hk : 1 ≤ k := by first | decide | omega)
    (h0 : starEach [e0, e1, e2] X.env = (false, eval e0 X.env) :: starEach [e1, e2] X.env := by rfl) (h1 : starEach [e1, e2] X.env = (false, eval e1 X.env) :: starEach [e2] X.env := by rfl)
    (h2 : starEach [e2] X.env = (false, eval e2 X.env) :: starEach [] X.env := by rfl) (s2 : St2 X b (.Tuple [e0, e1, e2] m pos) := by exact rfl) {pp : Pos} :
    SWs X (.Expr (.Call (.Name "_law_put" p3) [b, .Tuple [e0, e1, e2] m pos] [] pp) px :: rest) δ S E :=
  sws_put (S0 := S0) hb (ew_tup (aw_cons (h.mono fun v0 S1 h => aw_cons (h.mono fun v1 S2 h => aw_cons (h.mono fun v2 S3 h => aw_nil (by
    obtain ⟨op, a, b, e0, e1, e2, ⟨o1, o2, o3⟩, ⟨z1, z2⟩, G⟩ := h
    subst e0; subst e1; subst e2
    exact ⟨[.str op, .int a, .int b], rfl, sz_ok rfl, some ⟨op, a, b, 0⟩, g, (by show SV.d (.tuple _) = SV.d (Ins.D _); rw [ins3 o1 o2]), G, by have := hs.c; omega, fun S5 G5 => hk' _ S5 G5 (hok.put fun j e => by cases e; exact sm_of o3 z1 z2 (by decide)) (GR.put _)⟩)) h2) h1) h0)) hk s2 rfl rfl
theorem sws_put2 [h1 : GAt gs "_law_put"] {m : Nat} (hb : EV X b δ S (.r A.p)) (h : EW X e0 δ S fun v0 S1 => EW X e1 δ S1 fun v1 S2 => ∃ op a, v0 = .d (.str op) ∧ v1 = .d (.int a) ∧ (op ∈ s3 ∧ op ∈ ops38) ∧ a.natAbs < 2 ^ 64 ∧ Gn A S0 S2 g)
    (hok : GOk g) (hs : Sz g 1) (hk' : ∀ i S5, Gn A S0 S5 { g with code := g.code ++ [some i] } → GOk { g with code := g.code ++ [some i] } → GR 1 g { g with code := g.code ++ [some i] } → SWs X rest δ S5 E) (hk : 1 ≤ k := by first | decide | omega)
    (h0 : starEach [e0, e1] X.env = (false, eval e0 X.env) :: starEach [e1] X.env := by rfl) (h1 : starEach [e1] X.env = (false, eval e1 X.env) :: starEach [] X.env := by rfl) (s2 : St2 X b (.Tuple [e0, e1] m pos) := by exact rfl) {pp : Pos} :
    SWs X (.Expr (.Call (.Name "_law_put" p3) [b, .Tuple [e0, e1] m pos] [] pp) px :: rest) δ S E :=
  sws_put (S0 := S0) hb (ew_tup (aw_cons (h.mono fun v0 S1 h => aw_cons (h.mono fun v1 S2 h => aw_nil (by
    obtain ⟨op, a, e0, e1, ⟨o1, o3⟩, z1, G⟩ := h
    subst e0; subst e1
    exact ⟨[.str op, .int a], rfl, sz_ok rfl, some ⟨op, a, 0, 0⟩, g, (by show SV.d (.tuple _) = SV.d (Ins.D _); rw [ins2 o1]), G, by have := hs.c; omega, fun S5 G5 => hk' _ S5 G5 (hok.put fun j e => by cases e; exact sm_of o3 z1 (by decide) (by decide)) (GR.put _)⟩)) h1) h0)) hk s2 rfl rfl
/-- put(b, None) -/
theorem sws_putN [h1 : GAt gs "_law_put"] {m : Nat} (hb : EV X b δ S (.r A.p)) (G : Gn A S0 S g) (hs : Sz g 1) (h : ∀ S5, Gn A S0 S5 { g with code := g.code ++ [none] } → SWs X rest δ S5 E) (hk : 1 ≤ k := by first | decide | omega)
    (s2 : St2 X b (.Constant .none m p1) := by exact rfl) {pp : Pos} : SWs X (.Expr (.Call (.Name "_law_put" p3) [b, .Constant .none m p1] [] pp) px :: rest) δ S E :=
  sws_put (S0 := S0) hb (ev_non.use ⟨none, g, rfl, G, by have := hs.c; omega, h⟩) hk s2 rfl rfl
end
end K23
/-! the law's own defs, 5: branch, loop, jump, some *-/
namespace K23
open PySem PySem.Spec PyProof.Rows L2
section
variable {Z : Zx} [W : W0 Z]
theorem ok_branch {n : Int} {k : Nat} (hk : 3 ≤ k) (hs : HasFn Z "_law_some" ["_law_b", "_law_many"] k (cSome n)) : HasFn Z "_law_branch" ["_law_b"] (k + 1) (cNest n) := fn_intro sc__law_branch nm__law_branch (fun _ _ _ _ _ _ us hl => match us, hl with | [_], _ => rfl) (by tm_at "ctl") fun X B xs S R hc => by
  obtain ⟨A, g, rfl, G, hok, hsz, hl, hR⟩ := hc
  refine sws_cons <| sw_set <| ew_ixD <| EV.use (ev_lst (ds := br6.map PyData.str) (by tm_at "av") rfl rfl) <| ew_takeB (ev_var rfl) G ev_int (by decide) (by decide) fun j S1 j0 j1 G1 => ?_
  obtain ⟨op, hop, hat⟩ := atI_str (ns := br6) j0 j1
  have oop := br_ok op hop
  refine ⟨_, j, _, rfl, rfl, hat, ?_⟩
  clear hat
  refine sws_setV (ev_gclen (ev_var rfl) G1) ?_
  refine sws_putN (ev_var rfl) G1 (hsz.le (by decide)) fun S2 G2 => ?_
  refine sws_cons <| sw_set <| ew_ixD <| ew_lst <| aw_cons <| ev_int.use <| aw_cons <| ew_regB (ev_var rfl) G2 fun r S3 r0 r1 G3 => aw_nil ⟨[0, r].map PyData.int, rfl, sz_ok rfl, ?_⟩
  refine ew_takeB (ev_var rfl) G3 ev_int (by decide) (by decide) fun t S4 t0 t1 G4 => ?_
  obtain ⟨se, hse, hat2⟩ := atI_int (ns := [0, r]) t0 t1
  refine ⟨_, t, _, rfl, rfl, hat2, ?_⟩
  have hb : se.natAbs < 2 ^ 64 := by
    simp only [List.mem_cons, List.not_mem_nil, or_false] at hse
    omega
  clear hat2 hse
  refine sws_cons <| sw_set <| ew_regB (ev_var rfl) G4 fun f S5 f0 f1 G5 => ?_
  refine sws_some hs (Nat.le_refl _) (ev_var rfl) (ew_addI <| ev_int.use ⟨1, rfl, ew_takeB (ev_var rfl) G5 ev_int (by decide) (by decide) fun u S6 u0 u1 G6 => ⟨u, rfl, 1 + u, _, rfl, ⟨by omega, by omega⟩, G6, hok.put (fun i e => by cases e), (hsz.le (m := 1) (by decide)).app, hl, fun S7 h G7 ok7 r7 => ?_⟩⟩)
  have hlen := r7.len
  have hz := r7.zc
  have hz2 := hsz.c
  simp only [List.length_append, List.length_singleton] at hlen hz
  refine sws_fix (i := g.code.length) (x := ⟨op, f, se, h.code.length - g.code.length⟩) (EV.is (ev_tup (ds := [.str op, .int f, .int se, .int (h.code.length - g.code.length)]) (av_cons (ev_var rfl) (av_cons (ev_var rfl) (av_cons (ev_var rfl) (av_cons (ev_sub (ev_gclen (ev_var rfl) G7) (ev_var rfl)) av_nil)))) rfl rfl) (by show _ = SV.d (Ins.D _); rw [ins4 oop.1 oop.2.1])) (ev_var rfl) (ev_var rfl) G7 (by omega) fun S8 G8 => sws_nil (hR _ _ G8 (ok7.fix (sm_of oop.2.2 (by omega) hb (by omega))) ((r7.fix _).up (by decide)))
theorem ok_loop {n : Int} {k : Nat} (hk : 3 ≤ k) (hs : HasFn Z "_law_some" ["_law_b", "_law_many"] k (cSome n)) : HasFn Z "_law_loop" ["_law_b"] (k + 1) (cNest n) := fn_intro sc__law_loop nm__law_loop (fun _ _ _ _ _ _ us hl => match us, hl with | [_], _ => rfl) (by tm_at "ctl") fun X B xs S R hc => by
  obtain ⟨A, g, rfl, G, hok, hsz, hl, hR⟩ := hc
  have oad : okOp "addi" := dir_ok _ (by decide)
  have obn : okOp "bne" := dir_ok _ (by decide)
  refine sws_one (sw_if (x := decide (1 < g.deep)) (tv_cmp (cv_gt (ev_gdeep (ev_var rfl) G) ev_int)) (fun h => ?_) fun h => ?_)
  · exact sws_alu (ev_var rfl) G hok (hsz.le (by decide)) fun S2 h G2 ok2 r2 => sws_nil (hR _ _ G2 ok2 (r2.up (by decide)))
  have h := of_decide_eq_false h
  obtain ⟨c, hc, hat⟩ := atI_int (ns := [11, 12]) (k := g.deep) hok.d0.1 (by show g.deep < 2; omega)
  have hcb : 11 ≤ c ∧ c ≤ 14 := by
    simp only [List.mem_cons, List.not_mem_nil, or_false] at hc
    omega
  refine sws_setV (v := .d (.int c)) (ev_ixL (ds := [11, 12].map PyData.int) (ev_lst (by tm_at "av") rfl rfl) (ev_gdeep (ev_var rfl) G) hat) ?_
  clear hat hc
  refine sws_cons (SW.mono (E := { nx := fun δ' S' => S' = S ∧ ∃ c : Int, (11 ≤ c ∧ c ≤ 14) ∧ δ' = [some (.r A.p), some (.d (.int c)), none], rt := R, bk := fun _ _ => False, ct := fun _ _ => False }) ?st ?nx (fun _ _ h => h) (fun _ _ h => h.elim) fun _ _ h => h.elim)
  case st => exact sw_if (tv_val (ev_gsub (ev_var rfl) G)) (fun h => sws_setV ev_int (sws_nil ⟨rfl, 14, ⟨by decide, by decide⟩, rfl⟩)) fun h => sws_nil ⟨rfl, c, hcb, rfl⟩
  clear hcb c
  rintro δ' S' ⟨rfl, c, hcb, rfl⟩
  refine sws_fld (l := g.left) (d := g.deep + 1) (sb := g.sub) (t := g.tabs) (ev_add (ev_gdeep (ev_var rfl) G) ev_int) (ev_var rfl) G rfl fun S1 G1 => ?_
  have ok1 : GOk { g with deep := g.deep + 1 } := ⟨hok.l0, ⟨by have := hok.d0; dsimp only; omega, by dsimp only; omega⟩, hok.t0, hok.c0, hok.w0, hok.k0⟩
  have sz1 : Sz { g with deep := g.deep + 1 } 9 := ⟨hsz.c, hsz.w, hsz.k⟩
  have hl1 : ({ g with deep := g.deep + 1 } : GS).left ≤ n := hl
  have G1 : Gn A S' S1 { g with deep := g.deep + 1 } := G1
  have hfin : ∀ h m S2, GR m { g with deep := g.deep + 1 } h → m ≤ 9 → GOk h → Gn A S' S2 { h with deep := g.deep } → R (.d .none) S2 := fun h m S2 r hm ok2 G2 => hR _ _ G2 ⟨ok2.l0, hok.d0, ok2.t0, ok2.c0, ok2.w0, ok2.k0⟩ ((GR.deep r).up hm)
  have hd1 : ({ g with deep := g.deep + 1 } : GS).deep = g.deep + 1 := rfl
  generalize ({ g with deep := g.deep + 1 } : GS) = g1 at *
  refine sws_put4 (S0 := S') (ev_var rfl) (ev_str.use <| (ev_var rfl).use <| ev_int.use <| ew_addI <| ev_int.use ⟨1, rfl, ew_takeB (ev_var rfl) G1 ev_int (by decide) (by decide) fun t S2 t0 t1 G2 => ⟨t, rfl, _, c, 0, 1 + t, rfl, rfl, rfl, rfl, oad, ⟨by omega, by omega, by omega⟩, G2⟩⟩) ok1 (sz1.le (by decide)) fun i1 S3 G3 ok3 r3 => ?_
  have sz3 := (sz1.of (j := 8) r3 (by decide))
  have hl3 : ({ g1 with code := g1.code ++ [some i1] } : GS).left ≤ n := hl1
  generalize ({ g1 with code := g1.code ++ [some i1] } : GS) = g3 at *
  refine sws_setV (ev_gclen (ev_var rfl) G3) ?_
  refine sws_some hs (Nat.le_refl _) (ev_var rfl) (ew_addI <| ev_int.use ⟨1, rfl, ew_takeB (ev_var rfl) G3 ev_int (by decide) (by decide) fun u S4 u0 u1 G4 => ⟨u, rfl, 1 + u, g3, rfl, ⟨by omega, by omega⟩, G4, ok3, sz3.le (by decide), hl3, fun S5 h G5 ok5 r5 => ?_⟩⟩)
  have sz5 := sz3.of (j := 8) r5 (by decide)
  refine sws_put4 (S0 := S') (ev_var rfl) (ev_str.use <| (ev_var rfl).use <| (ev_var rfl).use <| EV.use (ev_neg ev_int) ⟨_, c, c, -1, rfl, rfl, rfl, rfl, oad, ⟨by omega, by omega, by decide⟩, G5⟩) ok5 (sz5.le (by decide)) fun i6 S6 G6 ok6 r6 => ?_
  have sz6 := sz5.of (j := 7) r6 (by decide)
  have hc6 := sz6.c
  have hc3 := sz3.c
  have r36 := (r3.trans r5).trans r6
  generalize ({ h with code := h.code ++ [some i6] } : GS) = g6 at *
  refine sws_put4 (S0 := S') (ev_var rfl) (ev_str.use <| (ev_var rfl).use <| ev_int.use <| EV.use (ev_sub (ev_var rfl) (ev_gclen (ev_var rfl) G6)) ⟨_, c, 0, _, rfl, rfl, rfl, rfl, obn, ⟨by omega, by omega, by omega⟩, G6⟩) ok6 (sz6.le (by decide)) fun i7 S7 G7 ok7 r7 => ?_
  have r37 := r36.trans r7
  generalize ({ g6 with code := g6.code ++ [some i7] } : GS) = g7 at *
  have hd : g7.deep - 1 = g.deep := by rw [r37.dp, hd1]; omega
  refine sws_fld (l := g7.left) (d := g.deep) (sb := g7.sub) (t := g7.tabs) (EV.is (ev_sub (ev_gdeep (ev_var rfl) G7) ev_int) (by rw [hd])) (ev_var rfl) G7 rfl fun S8 G8 => sws_nil (hfin g7 _ _ r37 (by decide) ok7 G8)
theorem ok_jump {n : Int} {k : Nat} (hk : 3 ≤ k) (hs : HasFn Z "_law_some" ["_law_b", "_law_many"] k (cSome n)) : HasFn Z "_law_jump" ["_law_b"] (k + 1) (cNest n) := fn_intro sc__law_jump nm__law_jump (fun _ _ _ _ _ _ us hl => match us, hl with | [_], _ => rfl) (by tm_at "ctl") fun X B xs S R hc => by
  obtain ⟨A, g, rfl, G, hok, hsz, hl, hR⟩ := hc
  have oai : okOp "andi" := dir_ok _ (by decide)
  have oad : okOp "add" := dir_ok _ (by decide)
  have olw : okOp "lw" := dir_ok _ (by decide)
  have ojr : okOp "jalr" := dir_ok _ (by decide)
  have oj := j_ok "jal" (by decide)
  refine sws_one (sw_if (x := decide (1 < g.tabs) || g.sub) (tv_w (wv_or (tv_cmp (cv_gt (ev_gtabs (ev_var rfl) G) ev_int)) fun _ => wv_or1 (tv_val (ev_gsub (ev_var rfl) G)))) (fun h => ?_) fun h => ?_)
  · exact sws_alu (ev_var rfl) G hok (hsz.le (by decide)) fun S2 h G2 ok2 r2 => sws_nil (hR _ _ G2 ok2 (r2.up (by decide)))
  have h := of_decide_eq_false (Bool.or_eq_false_iff.mp h).1
  have ht := hok.t0
  refine sws_setV (v := .d (.int (20 + 8 * g.tabs))) (ev_add ev_int (ev_mul ev_int (ev_gtabs (ev_var rfl) G) (.inl ⟨by decide, by decide⟩))) ?_
  refine sws_fld (l := g.left) (d := g.deep) (sb := g.sub) (t := g.tabs + 1) (ev_add (ev_gtabs (ev_var rfl) G) ev_int) (ev_var rfl) G rfl fun S1 G1 => ?_
  have ok1 : GOk { g with tabs := g.tabs + 1 } := ⟨hok.l0, hok.d0, ⟨by dsimp only; omega, by dsimp only; omega⟩, hok.c0, hok.w0, hok.k0⟩
  have sz1 : Sz { g with tabs := g.tabs + 1 } 9 := ⟨hsz.c, hsz.w, hsz.k⟩
  have hl1 : ({ g with tabs := g.tabs + 1 } : GS).left ≤ n := hl
  have r1 := GR.tabs (g := g) (g.tabs + 1)
  have G1 : Gn A S S1 { g with tabs := g.tabs + 1 } := G1
  generalize hT : 20 + 8 * g.tabs = T at *
  have hTb : 20 ≤ T ∧ T ≤ 28 := by omega
  generalize ({ g with tabs := g.tabs + 1 } : GS) = g1 at *
  refine sws_cons <| sw_set <| ew_regB (ev_var rfl) G1 fun r S2 r0 r1' G2 => ?_
  refine sws_put4 (S0 := S) (ev_var rfl) (ev_str.use <| (ev_var rfl).use <| ew_regB (ev_var rfl) G2 fun r2 S3 a0 a1 G3 => ev_int.use ⟨_, r, r2, 4, rfl, rfl, rfl, rfl, oai, ⟨by omega, by omega, by decide⟩, G3⟩) ok1 (sz1.le (by decide)) fun i3 S3 G3 ok3 r3 => ?_
  have sz3 := sz1.of (j := 8) r3 (by decide)
  have hl3 : ({ g1 with code := g1.code ++ [some i3] } : GS).left ≤ n := hl1
  have r3 := r1.trans r3
  generalize ({ g1 with code := g1.code ++ [some i3] } : GS) = g3 at *
  refine sws_put4 (S0 := S) (ev_var rfl) (ev_str.use <| (ev_var rfl).use <| (ev_var rfl).use <| ev_int.use ⟨_, r, r, 13, rfl, rfl, rfl, rfl, oad, ⟨by omega, by omega, by decide⟩, G3⟩) ok3 (sz3.le (by decide)) fun i4 S4 G4 ok4 r4 => ?_
  have sz4 := sz3.of (j := 7) r4 (by decide)
  have hl4 : ({ g3 with code := g3.code ++ [some i4] } : GS).left ≤ n := hl3
  have r4 := r3.trans r4
  generalize ({ g3 with code := g3.code ++ [some i4] } : GS) = g4 at *
  refine sws_put4 (S0 := S) (ev_var rfl) (ev_str.use <| (ev_var rfl).use <| (ev_var rfl).use <| (ev_var rfl).use ⟨_, r, r, T, rfl, rfl, rfl, rfl, olw, ⟨by omega, by omega, by omega⟩, G4⟩) ok4 (sz4.le (by decide)) fun i5 S5 G5 ok5 r5 => ?_
  have sz5 := sz4.of (j := 6) r5 (by decide)
  have hl5 : ({ g4 with code := g4.code ++ [some i5] } : GS).left ≤ n := hl4
  have r5 := r4.trans r5
  generalize ({ g4 with code := g4.code ++ [some i5] } : GS) = g5 at *
  refine sws_put4 (S0 := S) (ev_var rfl) (ev_str.use <| ev_int.use <| (ev_var rfl).use <| ev_int.use ⟨_, 0, r, 0, rfl, rfl, rfl, rfl, ojr, ⟨by decide, by omega, by decide⟩, G5⟩) ok5 (sz5.le (by decide)) fun i6 S6 G6 ok6 r6 => ?_
  have sz6 := sz5.of (j := 5) r6 (by decide)
  have hl6 : ({ g5 with code := g5.code ++ [some i6] } : GS).left ≤ n := hl5
  have r6 := r5.trans r6
  generalize ({ g5 with code := g5.code ++ [some i6] } : GS) = g6 at *
  have hc6 := sz6.c
  refine sws_wapp (p := (T, (g6.code.length : Int))) (ev_var rfl) (ev_tup (ds := [.int T, .int g6.code.length]) (av_cons (ev_var rfl) (av_cons (ev_gclen (ev_var rfl) G6) av_nil)) rfl rfl) G6 (by have := sz6.w; omega) fun S7 G7 => ?_
  have ok7 := ok6.wapp (p := (T, (g6.code.length : Int))) ⟨⟨by dsimp only; omega, by dsimp only; omega⟩, by dsimp only; omega, by dsimp only; omega⟩
  have r7 := GR.wapp (g := g6) (T, (g6.code.length : Int))
  have sz7 := sz6.of (j := 4) r7 (by decide)
  have hl7 : ({ g6 with words := g6.words ++ [(T, (g6.code.length : Int))] } : GS).left ≤ n := hl6
  have r7 := r6.trans r7
  generalize ({ g6 with words := g6.words ++ [(T, (g6.code.length : Int))] } : GS) = g7 at *
  refine sws_some hs (Nat.le_refl _) (ev_var rfl) (ew_addI <| ev_int.use ⟨1, rfl, ew_takeB (ev_var rfl) G7 ev_int (by decide) (by decide) fun u S8 u0 u1 G8 => ⟨u, rfl, 1 + u, g7, rfl, ⟨by omega, by omega⟩, G8, ok7, sz7.le (by decide), hl7, fun S9 g9 G9 ok9 r9 => ?_⟩⟩)
  have sz9 := sz7.of (j := 4) r9 (by decide)
  have hl9 : g9.left ≤ n := Int.le_trans r9.lf hl7
  have r9 := r7.trans r9
  have hc9 := sz9.c
  refine sws_setV (ev_gclen (ev_var rfl) G9) ?_
  refine sws_putN (ev_var rfl) G9 (sz9.le (by decide)) fun S10 G10 => ?_
  have ok10 := ok9.put (x := none) (fun i e => by cases e)
  have sz10 : Sz { g9 with code := g9.code ++ [none] } 3 := sz9.app
  have hl10 : ({ g9 with code := g9.code ++ [none] } : GS).left ≤ n := hl9
  have r10 : ∀ m h, GR m { g9 with code := g9.code ++ [none] } h → ∀ x, GR (m + 1) g9 { h with code := h.code.set g9.code.length (some x) } := fun m h r x => r.fix x
  have e10 : ({ g9 with code := g9.code ++ [none] } : GS).code.length = g9.code.length + 1 := by simp
  generalize ({ g9 with code := g9.code ++ [none] } : GS) = g10 at *
  have hc10 := sz10.c
  refine sws_wapp (p := (T + 4, (g10.code.length : Int))) (ev_var rfl) (ev_tup (ds := [.int (T + 4), .int g10.code.length]) (av_cons (ev_add (ev_var rfl) ev_int) (av_cons (ev_gclen (ev_var rfl) G10) av_nil)) rfl rfl) G10 (by have := sz10.w; omega) fun S11 G11 => ?_
  have ok11 := ok10.wapp (p := (T + 4, (g10.code.length : Int))) ⟨⟨by dsimp only; omega, by dsimp only; omega⟩, by dsimp only; omega, by dsimp only; omega⟩
  have r11 := GR.wapp (g := g10) (T + 4, (g10.code.length : Int))
  have sz11 := sz10.of (j := 2) r11 (by decide)
  have hl11 : ({ g10 with words := g10.words ++ [(T + 4, (g10.code.length : Int))] } : GS).left ≤ n := hl10
  generalize ({ g10 with words := g10.words ++ [(T + 4, (g10.code.length : Int))] } : GS) = g11 at *
  refine sws_some hs (Nat.le_refl _) (ev_var rfl) (ew_addI <| ev_int.use ⟨1, rfl, ew_takeB (ev_var rfl) G11 ev_int (by decide) (by decide) fun u S12 u0 u1 G12 => ⟨u, rfl, 1 + u, g11, rfl, ⟨by omega, by omega⟩, G12, ok11, sz11.le (by decide), hl11, fun S13 g13 G13 ok13 r13 => ?_⟩⟩)
  have hz := (sz11.of (j := 2) r13 (by decide)).c
  have r13 := r11.trans r13
  have hlen := r13.len
  refine sws_fix (i := g9.code.length) (x := ⟨"jal", 0, g13.code.length - g9.code.length, 0⟩) (EV.is (ev_tup (ds := [.str "jal", .int 0, .int (g13.code.length - g9.code.length)]) (av_cons ev_str (av_cons ev_int (av_cons (ev_sub (ev_gclen (ev_var rfl) G13) (ev_var rfl)) av_nil))) rfl rfl) (by show _ = SV.d (Ins.D _); rw [ins3 oj.1 oj.2.1])) (ev_var rfl) (ev_var rfl) G13 (by omega) fun S14 G14 => sws_nil (hR _ _ G14 (ok13.fix (sm_of oj.2.2 (by decide) (by omega) (by decide))) ((r9.trans (r10 _ _ r13 _)).up (by decide)))
theorem Sz.gone {g h : GS} {n : Nat} (s : Sz g 0) (hl : 0 < g.left) (r : GR n { g with left := g.left - 1 } h) (hn : n ≤ 10) : Sz h 0 := s.of (GR.dec hl r hn) (by decide)
theorem ok_some {n m : Int} {j k : Nat} (hnm : n ≤ m + 1) (hj : j ≤ k) (hk : 3 ≤ k) (hb : HasFn Z "_law_branch" ["_law_b"] j (cNest m)) (hlp : HasFn Z "_law_loop" ["_law_b"] j (cNest m)) (hjp : HasFn Z "_law_jump" ["_law_b"] j (cNest m)) : HasFn Z "_law_some" ["_law_b", "_law_many"] (k + 1) (cSome n) := fn_intro sc__law_some nm__law_some (fun _ _ _ _ _ _ us hl => match us, hl with | [_, _], _ => rfl) (by tm_at "ctl") fun X B xs S R hc => by
  obtain ⟨A, g, c, rfl, ⟨hc0, hc1⟩, G, hok, hsz, hl, hR⟩ := hc
  have oput := s_ok "put" (by decide)
  have oget := s_ok "get" (by decide)
  have olui := j_ok "lui" (by decide)
  refine sws_cons (sw_forT (D := fun i : Nat => .int (0 + (i : Int))) (ts := List.range c.toNat) (iw_range1 (by tm_at "ev") (by omega) (by omega))
    (fun r δ' S' => ∃ (h : GS) (u v : Option SV), δ' = [some (.r A.p), some (.d (.int c)), u, v] ∧ Gn A S S' h ∧ GOk h ∧ GR 0 g h)
    ⟨g, none, none, rfl, G, hok, GR.refl g⟩ (fun _ _ _ _ => trivial) ?_ ?_)
  · rintro t r δ' S' ⟨h, u, v, rfl, Gh, okh, rh⟩
    refine ew_tg ?_
    refine sws_one (sw_if (x := decide (0 < h.left)) (tv_cmp (cv_gt (ev_gleft (ev_var rfl) Gh) ev_int)) (fun hx => ?_) fun hx => sws_nil ⟨h, _, _, rfl, Gh, okh, rh⟩)
    have hx := of_decide_eq_true hx
    have szh : Sz h 0 := hsz.of rh (by decide)
    have hlm : ({ h with left := h.left - 1 } : GS).left ≤ m := by have := rh.lf; dsimp only; omega
    have ok1 := okh.left hx
    have sz1 := szh.dec hx
    have fin : ∀ n g' S2 (w : SV), GR n { h with left := h.left - 1 } g' → n ≤ 10 → GOk g' → Gn A S S2 g' → ∃ (h : GS) (u v : Option SV), [some (.r A.p), some (.d (.int c)), some (.d (.int (0 + (t : Int)))), some w] = [some (.r A.p), some (.d (.int c)), u, v] ∧ Gn A S S2 h ∧ GOk h ∧ GR 0 g h := fun n g' S2 w r hn ok2 G2 => ⟨g', _, _, rfl, G2, ok2, rh.trans (GR.dec hx r hn)⟩
    refine sws_fld (l := h.left - 1) (d := h.deep) (sb := h.sub) (t := h.tabs) (ev_sub (ev_gleft (ev_var rfl) Gh) ev_int) (ev_var rfl) Gh rfl fun S1 G1 => ?_
    have G1 : Gn A S S1 { h with left := h.left - 1 } := G1
    generalize ({ h with left := h.left - 1 } : GS) = g1 at *
    refine sws_cons <| sw_set <| ew_takeB (ev_var rfl) G1 ev_int (by decide) (by decide) fun w S2 w0 w1 G2 => ?_
    have fin := fun n g' S2 => fin n g' S2 (.d (.int w))
    refine sws_one (sw_if (x := decide (w < 5)) (by tm_at "tv") (fun hw => ?_) fun hw => sws_one (sw_if (x := decide (w < 9)) (by tm_at "tv") (fun hw => ?_) fun hw => sws_one (sw_if (x := decide (w = 9)) (by tm_at "tv") (fun hw => ?_) fun hw => sws_one (sw_if (x := decide (w = 10)) (by tm_at "tv") (fun hw => ?_) fun hw => sws_one (sw_if (x := decide (w = 11)) (by tm_at "tv") (fun hw => ?_) fun hw => sws_one (sw_if (x := decide (w = 12)) (by tm_at "tv") (fun hw => ?_) fun hw =>
      sws_one (sw_if (x := decide (w = 13) && !g1.sub) (tv_w (wv_and (by tm_at "tv") fun _ => wv_and1 (tv_not (tv_val (ev_gsub (ev_var rfl) G2))))) (fun hw => ?_) fun hw => sws_one (sw_if (x := decide (w = 14)) (by tm_at "tv") (fun hw => ?_) fun hw => ?_))))))))
    · exact sws_alu (ev_var rfl) G2 ok1 (sz1.le (by decide)) fun S3 g3 G3 ok3 r3 => sws_nil (fin _ _ _ r3 (by decide) ok3 G3)
    · exact sws_alu (ev_var rfl) G2 ok1 (sz1.le (by decide)) fun S3 g3 G3 ok3 r3 => sws_nil (fin _ _ _ r3 (by decide) ok3 G3)
    · exact sws_put2 (S0 := S) (ev_var rfl) (ev_str.use <| ew_regB (ev_var rfl) G2 fun r S3 r0 r1 G3 => ⟨_, r, rfl, rfl, oput, by omega, G3⟩) ok1 (sz1.le (by decide)) fun i S3 G3 ok3 r3 => sws_nil (fin _ _ _ r3 (by decide) ok3 G3)
    · exact sws_put2 (S0 := S) (ev_var rfl) (ev_str.use <| ew_regB (ev_var rfl) G2 fun r S3 r0 r1 G3 => ⟨_, r, rfl, rfl, oget, by omega, G3⟩) ok1 (sz1.le (by decide)) fun i S3 G3 ok3 r3 => sws_nil (fin _ _ _ r3 (by decide) ok3 G3)
    · exact sws_nest hb hj (ev_var rfl) G2 ok1 (sz1.le (by decide)) hlm fun S3 g3 G3 ok3 r3 => sws_nil (fin _ _ _ r3 (by decide) ok3 G3)
    · exact sws_nest hlp hj (ev_var rfl) G2 ok1 (sz1.le (by decide)) hlm fun S3 g3 G3 ok3 r3 => sws_nil (fin _ _ _ r3 (by decide) ok3 G3)
    · have hcl : ∀ {S3 : Sto}, Gn A S S3 g1 → g1.calls.length < sizeLine := fun _ => by have := sz1.k; unfold sizeLine; omega
      refine sws_cons (sw_expr (ew_append (EV.use (ev_gcalls (ev_var rfl) G2) ⟨A.k, _, rfl, G2.k, ew_tup (aw_cons (EV.use (ev_gclen (ev_var rfl) G2) (aw_cons (ew_takeB (ev_var rfl) G2 ev_int (by decide) (by decide) fun y S3 y0 y1 G3 => aw_nil ⟨[.int g1.code.length, .int y], rfl, sz_ok rfl, _, G3.k, by rw [List.length_map, List.length_map]; exact hcl G3, ?_⟩))))⟩)))
      have G4 := G3.calls (g1.calls ++ [((g1.code.length : Int), y)])
      have e4 : ((g1.calls.map prD).map SV.d) ++ [SV.d (.tuple [.int g1.code.length, .int y])] = ((g1.calls ++ [((g1.code.length : Int), y)]).map prD).map SV.d := by simp [prD]
      rw [e4]
      refine sws_putN (ev_var rfl) G4 ?_ fun S5 G5 => sws_nil (fin 1 _ _ (GR.call y) (by decide) (ok1.call ⟨y0, y1⟩) G5)
      exact ⟨by have := sz1.c; dsimp only; omega, by have := sz1.w; dsimp only; omega, by have := sz1.k; simp only [List.length_append, List.length_singleton]; omega⟩
    · exact sws_nest hjp hj (ev_var rfl) G2 ok1 (sz1.le (by decide)) hlm fun S3 g3 G3 ok3 r3 => sws_nil (fin _ _ _ r3 (by decide) ok3 G3)
    · exact sws_put3 (S0 := S) (ev_var rfl) (ev_str.use <| ew_regB (ev_var rfl) G2 fun r S3 r0 r1 G3 => ew_takeB (ev_var rfl) G3 ev_int (by decide) (by decide) fun y S4 y0 y1 G4 => ⟨_, r, y, rfl, rfl, rfl, olui, ⟨by omega, by omega⟩, G4⟩) ok1 (sz1.le (by decide)) fun i S3 G3 ok3 r3 => sws_nil (fin _ _ _ r3 (by decide) ok3 G3)
  · rintro δ' S' ⟨h, u, v, rfl, Gh, okh, rh⟩
    exact sws_nil (hR _ _ Gh okh rh)
theorem no_branch : HasFn Z "_law_branch" ["_law_b"] 1 (cNest (-1)) := fn_intro sc__law_branch nm__law_branch (fun _ _ _ _ _ _ us hl => match us, hl with | [_], _ => rfl) (by tm_at "ctl") fun X B xs S R hc => by
  obtain ⟨A, g, rfl, G, hok, hsz, hl, hR⟩ := hc
  have := hok.l0
  omega
theorem no_loop : HasFn Z "_law_loop" ["_law_b"] 1 (cNest (-1)) := fn_intro sc__law_loop nm__law_loop (fun _ _ _ _ _ _ us hl => match us, hl with | [_], _ => rfl) (by tm_at "ctl") fun X B xs S R hc => by
  obtain ⟨A, g, rfl, G, hok, hsz, hl, hR⟩ := hc
  have := hok.l0
  omega
theorem no_jump : HasFn Z "_law_jump" ["_law_b"] 1 (cNest (-1)) := fn_intro sc__law_jump nm__law_jump (fun _ _ _ _ _ _ us hl => match us, hl with | [_], _ => rfl) (by tm_at "ctl") fun X B xs S R hc => by
  obtain ⟨A, g, rfl, G, hok, hsz, hl, hR⟩ := hc
  have := hok.l0
  omega
theorem some_all : ∀ n : Nat, HasFn Z "_law_some" ["_law_b", "_law_many"] (5 + 2 * n) (cSome (n : Int))
  | 0 => ok_some (n := 0) (m := -1) (j := 1) (k := 4) (by decide) (by decide) (by decide) no_branch no_loop no_jump
  | n + 1 => by
    have ih := some_all n
    exact ok_some (n := ((n + 1 : Nat) : Int)) (m := (n : Int)) (j := 5 + 2 * n + 1) (k := 5 + 2 * n + 1) (by omega) (Nat.le_refl _) (by omega) (ok_branch (by omega) ih) (ok_loop (by omega) ih) (ok_jump (by omega) ih)
instance ok__law_some : HasFn Z "_law_some" ["_law_b", "_law_many"] 31 (cSome 13) := some_all 13
end
end K23
/-! the law's own defs, 6: bytes, the image *-/
namespace K23
open PySem PySem.Spec PyProof.Rows L2
def byteW (w : Int) (i : Nat) : Int := (w / 2 ^ (8 * (0 + (i : Int))).toNat) % 256
def byteR (w : Int) : List Int := (List.range 4).map (byteW w)
def bytesF (ws : List Int) : List Int := ws.flatMap byteR
theorem bytes_len : ∀ ws : List Int, (bytesF ws).length = 4 * ws.length
  | [] => rfl
  | w :: ws => by
    show (byteR w ++ bytesF ws).length = _
    rw [List.length_append, bytes_len ws, List.length_cons]
    show 4 + _ = _
    omega
theorem bytes_bd {ws : List Int} : ∀ b ∈ bytesF ws, 0 ≤ b ∧ b ≤ 255 := fun b hb => by
  obtain ⟨w, _, h⟩ := List.mem_flatMap.mp hb
  obtain ⟨i, _, rfl⟩ := List.mem_map.mp h
  unfold byteW
  omega
/-- the images that the law makes -/
structure GoodI (m : Img) : Prop where
  h : ∃ (base : Int) (ws vs ts : List Int), (base = 0 ∨ base = 4096) ∧ ws.length ≤ 1000 ∧ vs.length ≤ 100 ∧ (∀ v ∈ vs, 0 ≤ v ∧ v ≤ 255) ∧ ts.length ≤ 100 ∧ m.segs = [⟨base, bytesF ws, false, true⟩, ⟨16384, vs, true, false⟩, ⟨32768, bytesF ts, false, false⟩]
abbrev intsL (ns : List Int) : MO := .lst ((ns.map PyData.int).map SV.d)
def dropS (S : Sto) (q : Addr) : Sto := fun a => if a = q then none else S a
theorem dropS_le {S : Sto} {q : Addr} : SLe (dropS S q) S := fun a o h => by
  unfold dropS at h
  split at h
  · cases h
  · exact h
theorem dropS_self {S : Sto} {q : Addr} : dropS S q q = none := if_pos rfl
theorem dropS_ne {S : Sto} {q a : Addr} (h : a ≠ q) : dropS S q a = S a := if_neg h
theorem Kp.drop {l : List Addr} {S T : Sto} {q : Addr} (h : Kp l S T) (hq : S q = none) : Kp l S (dropS T q) := fun a o n e => by
  rw [dropS_ne (fun z => by rw [z, hq] at e; cases e)]; exact h a o n e
theorem Dr.keep {S T : Sto} {q : Addr} (h : Dr S q) (e : T q = S q) : Dr T q := by
  obtain ⟨cs, i, c, s, h1, h2⟩ := h
  exact ⟨cs, i, c, s, by rw [e]; exact h1, h2⟩
theorem Dr.some {S : Sto} {q : Addr} (h : Dr S q) : S q ≠ none := by
  obtain ⟨cs, i, c, s, h1, h2⟩ := h
  rw [h1]; exact fun z => by cases z
section
variable {A : GP} {S0 S S' : Sto} {g : GS}
theorem Gn.noA (h : Gn A S0 S g) {z : Addr} (hz : S z = none) : z ∉ A.l := fun m => by
  unfold GP.l at m
  simp only [List.mem_cons, List.not_mem_nil, or_false] at m
  rcases m with e | e | e | e | e
  · rw [e, h.p] at hz; cases hz
  · rw [e] at hz; exact h.q.some hz
  · rw [e, h.c] at hz; cases hz
  · rw [e, h.w] at hz; cases hz
  · rw [e, h.k] at hz; cases hz
theorem Gn.fresh (h : Gn A S0 S g) {z : Addr} (hz : S z = none) : S0 z = none := by
  cases e : S0 z with
  | none => rfl
  | some o => rw [h.kp z o (h.noA hz) e] at hz; cases hz
/-- another object is made or changed -/
theorem Gn.other (h : Gn A S0 S g) {z : Addr} {o : MO} (hz : z ∉ A.l) (h0 : S0 z = none) : Gn A S0 (supd S z o) g := by
  have n : ∀ {a : Addr}, a ∈ A.l → a ≠ z := fun m e => hz (e ▸ m)
  exact ⟨fun a u m e => (by rw [supd_ne (fun z' => by rw [z', h0] at e; cases e)]; exact h.kp a u m e), h.ne, by rw [supd_ne (n A.mp)]; exact h.p, h.q.keep (supd_ne (n A.mq)), by rw [supd_ne (n A.mc)]; exact h.c, by rw [supd_ne (n A.mw)]; exact h.w, by rw [supd_ne (n A.mk')]; exact h.k⟩
theorem Gn.keep (h : Gn A S S' g) {z : Addr} {o : MO} (hz : z ∉ A.l) (e : S z = some o) : S' z = some o := h.kp z o hz e
end
/-- all that is open is called -/
def PA (g : GS) : Prop := ∀ i : Nat, g.code[i]? = some none → ∃ k, ((i : Int), k) ∈ g.calls
theorem GR.pa {g h : GS} {n : Nat} (r : GR n g h) (p : PA g) : PA h := fun i e => by
  by_cases hi : i < g.code.length
  · rw [r.pre i hi] at e
    obtain ⟨k, hk⟩ := p i e
    exact ⟨k, r.kc _ hk⟩
  · exact r.pend i (by omega) e
section
variable {Z : Zx} [W : W0 Z]
abbrev cBytes : Ct := fun xs S R => ∃ ws : List Int, xs = [.d (.list (ws.map PyData.int))] ∧ ws.length ≤ 2000 ∧ R (.d (.tuple ((bytesF ws).map PyData.int))) S
instance ok__law_bytes : HasFn Z "_law_bytes" ["_law_words"] 1 cBytes := fn_intro sc__law_bytes nm__law_bytes (fun _ _ _ _ _ _ us hl => match us, hl with | [_], _ => rfl) (by tm_at "ctl") fun X B xs S R hc => by
  obtain ⟨ws, rfl, hn, hR⟩ := hc
  refine sws_newL (xs := []) av_nil (by decide) fun q hq => ?_
  refine sws_cons (sw_forT (D := PyData.int) (ts := ws) (iw_list (ev_var rfl)) (fun r δ' S2 => ∃ (l : List Int) (u v : Option SV), ws = l ++ r ∧ δ' = [some (.d (.list (ws.map PyData.int))), some (.r q), u, v] ∧ S2 = supd S q (intsL (bytesF l)))
    ⟨[], none, none, rfl, rfl, rfl⟩ (fun _ _ _ _ => trivial) ?_ ?_)
  · rintro w r δ' S2 ⟨l, u, v, e1, rfl, rfl⟩
    have hl : l.length < 2000 := by
      have := congrArg List.length e1
      rw [List.length_append, List.length_cons] at this
      omega
    have hbl := bytes_len l
    refine ew_tg (sws_one (sw_forT (D := fun i : Nat => .int (0 + (i : Int))) (ts := List.range 4) (iw_range1 (n := 4) ev_int (by decide) (by decide)) (fun r2 δ' S2 => ∃ (n : Nat) (v : Option SV), r2 = (List.range 4).drop n ∧ n ≤ 4 ∧ δ' = [some (.d (.list (ws.map PyData.int))), some (.r q), some (.d (.int w)), v] ∧ S2 = supd S q (intsL (bytesF l ++ ((List.range n).map (byteW w)))))
      ⟨0, v, rfl, by decide, rfl, by rw [List.range_zero, List.map_nil, List.append_nil]⟩ (fun _ _ _ _ => trivial) ?_ ?_))
    · rintro t r2 δ' S2 ⟨n, v, f1, f2, rfl, rfl⟩
      obtain ⟨rfl, hn2, rfl⟩ := range_drop f1
      refine ew_tg (sws_app (v := .d (.int (byteW w t))) (ev_var rfl) supd_same (ev_mod (ev_int1 (ev_shr (ev_var rfl) (ev_mul ev_int (ev_var rfl) (.inl ⟨by decide, by decide⟩)) (by omega))) ev_int (by decide)) (by rw [List.length_map, List.length_map, List.length_append, List.length_map, List.length_range]; unfold sizeLine; omega) (sws_nil ⟨t + 1, _, rfl, hn2, rfl, ?_⟩))
      rw [supd_supd]
      refine congrArg (fun z => supd S q (.lst z)) ?_
      rw [List.range_succ]
      simp
    · rintro δ' S2 ⟨n, v, f1, f2, rfl, rfl⟩
      have hn4 : n = 4 := by
        have := congrArg List.length f1
        rw [List.length_drop, List.length_range] at this
        simp only [List.length_nil] at this
        omega
      subst hn4
      refine ⟨l ++ [w], _, _, by rw [e1]; simp, rfl, ?_⟩
      unfold bytesF
      rw [List.flatMap_append, List.flatMap_singleton]
      rfl
  · rintro δ' S2 ⟨l, u, v, e1, rfl, rfl⟩
    rw [List.append_nil] at e1
    subst e1
    refine sws_frz (i := 1) (S' := S) rfl supd_same ((SLe.refl S).new hq) hq ?_
    exact sws_one (sw_retE (ev_tupleL (by tm_at "ev")) rfl hR)
end
section
variable {Z : Zx} [W : W0 Z] {X : Cx} {N : List Str} {sc : Scope} {bs ls : List Bool} {gs : List Str} {k : Nat} [B : Bd Z X N sc bs ls gs k]
variable {b e : Expr} {δ : Dl} {S S0 : Sto} {pos p3 : Pos} {R : SV → Sto → Prop} {A : GP} {g : GS}
include B
/-- take(draw, m) -/
theorem ew_takeQ [h1 : GAt gs "_law_take"] {q : Addr} {m : Int} (hb : EV X b δ S (.r q)) (D : Dr S q) (hm : EV X e δ S (.d (.int m))) (m1 : 1 ≤ m) (m2 : m < 2 ^ 40) (h : ∀ (k : Int) S', 0 ≤ k → k < m → Kp [q] S S' → Dr S' q → R (.d (.int k)) S') (hk : 1 ≤ k := by first | decide | omega)
    (s2 : St2 X b e := by exact rfl) (s1 : St1 X e := by exact rfl) : EW X (.Call (.Name "_law_take" p3) [b, e] [] pos) δ S R :=
  ew_call hk (AV.use (av_cons hb (av_cons hm av_nil s1) s2) ⟨q, m, rfl, D, m1, m2, h⟩) s2 (by rw [s1]; rfl)
theorem ew_takeG [h1 : GAt gs "_law_take"] {m : Int} (hb : EV X b δ S (.r A.q)) (G : Gn A S0 S g) (hm : EV X e δ S (.d (.int m))) (m1 : 1 ≤ m) (m2 : m < 2 ^ 40) (h : ∀ (k : Int) S', 0 ≤ k → k < m → Gn A S0 S' g → Kp [A.q] S S' → R (.d (.int k)) S') (hk : 1 ≤ k := by first | decide | omega)
    (s2 : St2 X b e := by exact rfl) (s1 : St1 X e := by exact rfl) : EW X (.Call (.Name "_law_take" p3) [b, e] [] pos) δ S R :=
  ew_takeQ hb G.q hm m1 m2 (fun k S' k0 k1 hk hd => h k S' k0 k1 (G.draw hk hd) hk) hk s2 s1
end
end K23
/-! the law's own defs, 7: the image *-/
namespace K23
open PySem PySem.Spec PyProof.Rows L2
theorem sup_ne {S : Sto} {a b : Addr} {o : MO} (h : supd S a o b = none) : a ≠ b := fun e => by rw [← e, supd_same] at h; cases h
theorem sup_pn {S : Sto} {a b : Addr} {o : MO} (h : supd S a o b = none) : S b = none := by rw [← h, supd_ne (Ne.symm (sup_ne h))]
structure GZ (g : GS) (n : Nat) : Prop where
  lo : 1 ≤ g.code.length
  c : g.code.length ≤ n
  w : g.words.length ≤ n
  k : g.calls.length ≤ n
theorem code_all : ∀ {c : List (Option Ins)}, (∀ i, some i ∈ c → i.sm) → (∀ i : Nat, c[i]? ≠ some none) → ∃ il : List Ins, c = il.map some ∧ ∀ i ∈ il, i.sm
  | [], _, _ => ⟨[], rfl, fun _ h => absurd h List.not_mem_nil⟩
  | none :: c, _, h => absurd rfl (h 0)
  | some i :: c, h1, h2 => by
    obtain ⟨il, e, h⟩ := code_all (c := c) (fun j hj => h1 j (List.mem_cons_of_mem _ hj)) fun j => h2 (j + 1)
    exact ⟨i :: il, by rw [e]; rfl, fun j hj => by
      rcases List.mem_cons.mp hj with z | z
      · rw [z]; exact h1 i List.mem_cons_self
      · exact h j z⟩
section
variable {Z : Zx} [W : W0 Z]
abbrev cImage : Ct := fun xs S R => ∃ (q : Addr) (left : Int), xs = [.r q, .d (.int left)] ∧ Dr S q ∧ (0 ≤ left ∧ left ≤ 13) ∧ ∀ (m : Img) S', GoodI m → Kp [q] S S' → Dr S' q → R (.d m.D) S'
set_option maxHeartbeats 16000000 in
instance ok__law_image : HasFn Z "_law_image" ["_law_draw_here", "_law_left"] 32 cImage := fn_intro sc__law_image nm__law_image (fun _ _ _ _ _ _ us hl => match us, hl with | [_, _], _ => rfl) (by tm_at "ctl") fun X B xs S R hc => by
  obtain ⟨q, left, rfl, hD, ⟨l0, l1⟩, hR⟩ := hc
  have olui := j_ok "lui" (by decide)
  have ojal := j_ok "jal" (by decide)
  have oex := s_ok "exit" (by decide)
  have ojr : okOp "jalr" := dir_ok _ (by decide)
  refine sws_cons <| sw_set <| ew_disp <| pd_cons (kk := .inr "draw") ev_str (ev_var rfl) <| pd_consW (kk := .inr "code") ev_str <| ew_lstO <| av_nil.use ⟨by decide, fun c hc => ?_⟩
  refine pd_cons (kk := .inr "left") ev_str (ev_var rfl) <| pd_cons (kk := .inr "deep") ev_str ev_int <| pd_cons (kk := .inr "sub") ev_str ev_bl <| pd_cons (kk := .inr "tables") ev_str ev_int <| pd_consW (kk := .inr "words") ev_str <| ew_lstO <| av_nil.use ⟨by decide, fun w hw => ?_⟩
  refine pd_consW (kk := .inr "calls") ev_str <| ew_lstO <| av_nil.use ⟨by decide, fun kq hk => ?_⟩
  refine pd_nil ⟨Nat.le_of_ble_eq_true rfl, fun p hp => ?_⟩
  have hqs := hD.some
  have nc : c ≠ q := fun e => hqs (e ▸ hc)
  have w1 := sup_pn hw
  have nw : w ≠ q := fun e => hqs (e ▸ w1)
  have k1 := sup_pn (sup_pn hk)
  have nk : kq ≠ q := fun e => hqs (e ▸ k1)
  have p1 := sup_pn (sup_pn (sup_pn hp))
  have np : p ≠ q := fun e => hqs (e ▸ p1)
  have hA : GP.nes ⟨p, q, c, w, kq⟩ := ⟨np, Ne.symm (sup_ne (sup_pn (sup_pn hp))), Ne.symm (sup_ne (sup_pn hp)), Ne.symm (sup_ne hp), Ne.symm nc, Ne.symm nw, Ne.symm nk, sup_ne hw, sup_ne (sup_pn hk), sup_ne hk⟩
  have G0 : Gn ⟨p, q, c, w, kq⟩ S (supd (supd (supd (supd S c (.lst [])) w (.lst [])) kq (.lst [])) p (.dct (Gb ⟨p, q, c, w, kq⟩ ⟨[], left, 0, false, 0, [], []⟩))) ⟨[], left, 0, false, 0, [], []⟩ := by
    refine ⟨(((((Kp.refl _ S).new hc).new hw).new hk).new hp), hA, supd_same, hD.keep ?_, ?_, ?_, ?_⟩
    · rw [supd_ne (Ne.symm np), supd_ne (Ne.symm nk), supd_ne (Ne.symm nw), supd_ne (Ne.symm nc)]
    · rw [supd_ne (Ne.symm hA.pc), supd_ne hA.ck, supd_ne hA.cw]; exact supd_same
    · rw [supd_ne (Ne.symm hA.pw), supd_ne hA.wk]; exact supd_same
    · rw [supd_ne (Ne.symm hA.pk)]; exact supd_same
  have hfin : ∀ {S' g}, Gn ⟨p, q, c, w, kq⟩ S S' g → Kp [q] S S' := fun G a o m e => G.kp a o (fun m2 => by
    unfold GP.l at m2
    simp only [List.mem_cons, List.not_mem_nil, or_false] at m2 m
    rcases m2 with z | z | z | z | z
    · rw [z, p1] at e; cases e
    · exact m z
    · rw [z, hc] at e; cases e
    · rw [z, w1] at e; cases e
    · rw [z, k1] at e; cases e) e
  have ok0 : GOk ⟨[], left, 0, false, 0, [], []⟩ := ⟨l0, ⟨Int.le_refl 0, (by decide : (0 : Int) ≤ 2)⟩, ⟨Int.le_refl 0, (by decide : (0 : Int) ≤ 2)⟩, fun i h => absurd h List.not_mem_nil, fun i h => absurd h List.not_mem_nil, fun i h => absurd h List.not_mem_nil⟩
  have sz0 : Sz ⟨[], left, 0, false, 0, [], []⟩ 100 := ⟨by show 0 + 10 * left.toNat + 100 ≤ 1000; omega, by show 0 + 10 * left.toNat + 100 ≤ 1000; omega, by show 0 + 10 * left.toNat + 100 ≤ 1000; omega⟩
  have rr0 := GR.refl ⟨[], left, 0, false, 0, [], []⟩
  have hl0 : (⟨[], left, 0, false, 0, [], []⟩ : GS).left ≤ 13 := l1
  have hle0 : (⟨[], left, 0, false, 0, [], []⟩ : GS).left = left := rfl
  have pa0 : PA ⟨[], left, 0, false, 0, [], []⟩ := fun i h => by cases h
  have z0 : (⟨[], left, 0, false, 0, [], []⟩ : GS).code.length = 0 ∧ (⟨[], left, 0, false, 0, [], []⟩ : GS).words.length = 0 ∧ (⟨[], left, 0, false, 0, [], []⟩ : GS).calls.length = 0 := ⟨rfl, rfl, rfl⟩
  show SWs X _ _ (supd (supd (supd (supd S c (.lst [])) w (.lst [])) kq (.lst [])) p (.dct (Gb ⟨p, q, c, w, kq⟩ ⟨[], left, 0, false, 0, [], []⟩))) _
  clear hA hp hk hw
  generalize supd (supd (supd (supd S c (.lst [])) w (.lst [])) kq (.lst [])) p (.dct (Gb ⟨p, q, c, w, kq⟩ ⟨[], left, 0, false, 0, [], []⟩)) = S0 at *
  generalize (⟨[], left, 0, false, 0, [], []⟩ : GS) = g0 at *
  have hAp : (⟨p, q, c, w, kq⟩ : GP).p = p := rfl
  have hAq : (⟨p, q, c, w, kq⟩ : GP).q = q := rfl
  generalize (⟨p, q, c, w, kq⟩ : GP) = A at *
  subst hAp; subst hAq
  clear nc nw nk np w1 k1 p1 hc
  refine sws_cons <| sw_set <| ew_mulI <| ev_int.use ⟨4096, rfl, ew_takeG (ev_var rfl) G0 ev_int (by decide) (by decide) fun y S1 y0 y1 G1 _ => ⟨y, rfl, .inl ⟨by decide, by decide⟩, ?_⟩⟩
  have hbase : 4096 * y = 0 ∨ 4096 * y = 4096 := by omega
  generalize 4096 * y = base at *
  refine sws_put3 (S0 := S) (ev_var rfl) (ev_str.use <| ev_int.use <| ev_int.use ⟨_, 10, 1, rfl, rfl, rfl, olui, ⟨by decide, by decide⟩, G1⟩) ok0 (sz0.le (by decide)) fun i2 S2 G2 ok2 r2 => ?_
  have sz2 := sz0.of (j := 99) r2 (by decide)
  have hl2 : ({ g0 with code := g0.code ++ [some i2] } : GS).left ≤ 13 := hl0
  have hle2 : ({ g0 with code := g0.code ++ [some i2] } : GS).left = left := hle0
  have z2 : 1 ≤ ({ g0 with code := g0.code ++ [some i2] } : GS).code.length := by simp
  have r2 := rr0.trans r2
  generalize ({ g0 with code := g0.code ++ [some i2] } : GS) = g2 at *
  refine sws_put3 (S0 := S) (ev_var rfl) (ev_str.use <| ev_int.use <| ev_int.use ⟨_, 13, 2, rfl, rfl, rfl, olui, ⟨by decide, by decide⟩, G2⟩) ok2 (sz2.le (by decide)) fun i3 S3 G3 ok3 r3 => ?_
  have sz3 := sz2.of (j := 98) r3 (by decide)
  have hl3 : ({ g2 with code := g2.code ++ [some i3] } : GS).left ≤ 13 := hl2
  have z3 := r3.len
  have r3 := r2.trans r3
  generalize ({ g2 with code := g2.code ++ [some i3] } : GS) = g3 at *
  refine sws_some (n := 13) ok__law_some (by decide) (ev_var rfl) ((ev_var rfl).use ⟨left, g3, rfl, ⟨l0, by omega⟩, G3, ok3, sz3.le (by decide), hl3, fun S4 g4 G4 ok4 r4 => ?_⟩)
  have sz4 := sz3.of (j := 98) r4 (by decide)
  have z4 := r4.len
  have r4 := r3.trans r4
  refine sws_put2 (S0 := S) (ev_var rfl) (ev_str.use <| ew_regB (ev_var rfl) G4 fun r S5 a0 a1 G5 => ⟨_, r, rfl, rfl, oex, by omega, G5⟩) ok4 (sz4.le (by decide)) fun i5 S5 G5 ok5 r5 => ?_
  have z5 := r5.len
  have r5 := r4.trans r5
  have gz5 : GZ { g4 with code := g4.code ++ [some i5] } 200 := ⟨by omega, by have := r5.zc; omega, by have := r5.zw; omega, by have := r5.zk; omega⟩
  have pa5 := r5.pa pa0
  generalize ({ g4 with code := g4.code ++ [some i5] } : GS) = g5 at *
  clear r5 z5 r4 z4 sz4 ok4 G4 r3 z3 sz3 hl3 ok3 G3 r2 z2 sz2 hl2 hle2 ok2 G2 G1 G0 pa0 z0 hle0 hl0 rr0 sz0 ok0
  refine sws_newL (xs := []) av_nil (by decide) fun z hz => ?_
  have zA := G5.noA hz
  have zS := G5.fresh hz
  have G6 := G5.other (o := intsL []) zA zS
  have hz6 : (supd S5 z (intsL [])) z = some (intsL []) := supd_same
  show SWs X _ _ (supd S5 z (intsL [])) _
  generalize supd S5 z (intsL []) = S6 at *
  refine sws_fld (l := g5.left) (d := g5.deep) (sb := true) (t := g5.tabs) ev_bl (ev_var rfl) G6.self rfl fun S7 G7 => ?_
  have hz7 := G7.keep zA hz6
  have G7 := G6.from G7
  have ok7 : GOk { g5 with sub := true } := ⟨ok5.l0, ok5.d0, ok5.t0, ok5.c0, ok5.w0, ok5.k0⟩
  have pa7 : PA { g5 with sub := true } := pa5
  have gz7 : GZ { g5 with sub := true } 200 := ⟨gz5.lo, gz5.c, gz5.w, gz5.k⟩
  have G7 : Gn A S S7 { g5 with sub := true } := G7
  generalize ({ g5 with sub := true } : GS) = g7 at *
  clear ok5 pa5 gz5 G5 G6 hz6 hz
  refine sws_cons (sw_forT (D := fun i : Nat => .int (0 + (i : Int))) (ts := List.range 2) (iw_range1 (n := 2) ev_int (by decide) (by decide))
    (fun r δ' S' => ∃ (g : GS) (st : List Int) (u : Option SV), δ' = [some (.r A.q), some (.d (.int left)), some (.r A.p), some (.d (.int base)), some (.r z), u, none, none, none, none, none, none, none] ∧ Gn A S S' g ∧ GOk g ∧ PA g ∧ GZ g (200 + 50 * st.length) ∧ S' z = some (intsL st) ∧ st.length + r.length = 2 ∧ ∀ s ∈ st, 0 ≤ s ∧ s ≤ 1000)
    ⟨g7, [], none, rfl, G7, ok7, pa7, gz7, hz7, rfl, fun s hs => absurd hs List.not_mem_nil⟩ (fun _ _ _ _ => trivial) ?_ ?_)
  · rintro t r δ' S7 ⟨g7, st, u, rfl, G7, ok7, pa7, gz7, hz7, hst, hsb⟩
    refine ew_tg ?_
    have hrl : r.length ≤ 1 := by rw [List.length_cons] at hst; omega
    rw [List.length_cons] at hst
    have hcl := gz7.c
    refine sws_app (v := .d (.int g7.code.length)) (ev_var rfl) hz7 (ev_gclen (ev_var rfl) G7) (by rw [List.length_map, List.length_map]; unfold sizeLine; omega) ?_
    have e8 : (st.map PyData.int).map SV.d ++ [SV.d (.int g7.code.length)] = ((st ++ [(g7.code.length : Int)]).map PyData.int).map SV.d := by simp
    rw [e8]
    have G8 := G7.other (o := intsL (st ++ [(g7.code.length : Int)])) zA zS
    have hz8 : (supd S7 z (intsL (st ++ [(g7.code.length : Int)]))) z = some (intsL (st ++ [(g7.code.length : Int)])) := supd_same
    have hsb8 : ∀ s ∈ st ++ [(g7.code.length : Int)], 0 ≤ s ∧ s ≤ 1000 := fun s hs => by
      rcases List.mem_append.mp hs with h | h
      · exact hsb s h
      · rw [List.mem_singleton.mp h]; omega
    have hs8 : (st ++ [(g7.code.length : Int)]).length = st.length + 1 := by rw [List.length_append, List.length_singleton]
    have hst8 : (st ++ [(g7.code.length : Int)]).length + r.length = 2 := by rw [List.length_append, List.length_singleton]; omega
    generalize st ++ [(g7.code.length : Int)] = st8 at *
    show SWs X _ _ (supd S7 z (intsL st8)) _
    generalize supd S7 z (intsL st8) = S8 at *
    refine sws_fld (l := 3) (d := g7.deep) (sb := g7.sub) (t := g7.tabs) ev_int (ev_var rfl) G8.self rfl fun S9 G9 => ?_
    have ok9 : GOk { g7 with left := 3 } := ⟨(by decide : (0 : Int) ≤ 3), ok7.d0, ok7.t0, ok7.c0, ok7.w0, ok7.k0⟩
    have pa9 : PA { g7 with left := 3 } := pa7
    have gz9 : GZ { g7 with left := 3 } (200 + 50 * st.length) := ⟨gz7.lo, gz7.c, gz7.w, gz7.k⟩
    have hl9 : ({ g7 with left := 3 } : GS).left = 3 := rfl
    have G9 : Gn A S8 S9 { g7 with left := 3 } := G9
    generalize ({ g7 with left := 3 } : GS) = g9 at *
    have sz9 : Sz g9 100 := by
      have h1 := gz9.c
      have h2 := gz9.w
      have h3 := gz9.k
      have h4 : g9.left.toNat = 3 := by rw [hl9]; rfl
      exact ⟨by omega, by omega, by omega⟩
    refine sws_some (n := 13) (S0 := S8) ok__law_some (by decide) (ev_var rfl) (ew_addI <| ev_int.use ⟨1, rfl, ew_takeG (ev_var rfl) G9 ev_int (by decide) (by decide) fun v S10 v0 v1 G10 _ => ⟨v, rfl, 1 + v, g9, rfl, ⟨by omega, by omega⟩, G10, ok9, sz9.le (by decide), by omega, fun S11 g11 G11 ok11 r11 => ?_⟩⟩)
    have sz11 := sz9.of (j := 100) r11 (by decide)
    refine sws_put4 (S0 := S8) (ev_var rfl) (ev_str.use <| ev_int.use <| ew_ixD <| EV.use (ev_lst (ds := ([1, 1, 1, 1, 5] : List Int).map PyData.int) (by tm_at "av") rfl rfl) <| ew_takeG (ev_var rfl) G11 ev_int (by decide) (by decide) fun x S12 x0 x1 G12 _ => ?_) ok11 (sz11.le (by decide)) fun i13 S13 G13 ok13 r13 => ?_
    · obtain ⟨f, hf, hat⟩ := atI_int (ns := [1, 1, 1, 1, 5]) x0 x1
      have hb : f.natAbs < 2 ^ 64 := by
        simp only [List.mem_cons, List.not_mem_nil, or_false] at hf
        omega
      exact ⟨_, x, _, rfl, rfl, hat, ev_int.use ⟨_, 0, f, 0, rfl, rfl, rfl, rfl, ojr, ⟨by decide, hb, by decide⟩, G12⟩⟩
    · have r13 := r11.trans r13
      have h4 : g9.left.toNat = 3 := by rw [hl9]; rfl
      refine sws_nil ⟨_, st8, _, rfl, G8.from G13, ok13, r13.pa pa9, ⟨Nat.le_trans gz9.lo r13.len, ?_, ?_, ?_⟩, G13.keep zA hz8, hst8, hsb8⟩
      · have := r13.zc; have := gz9.c; omega
      · have := r13.zw; have := gz9.w; omega
      · have := r13.zk; have := gz9.k; omega
  rintro δ' S8 ⟨g8, st, u, rfl, G8, ok8, pa8, gz8, hz8, hst, hsb⟩
  have hst : st.length = 2 := hst
  have gz8 : GZ g8 300 := ⟨gz8.lo, by have := gz8.c; omega, by have := gz8.w; omega, by have := gz8.k; omega⟩
  refine sws_cons (sw_forT (D := prD) (ts := g8.calls) (iw_own (ev_gcalls (ev_var rfl) G8) G8.k)
    (fun r δ' S' => ∃ (cd : List (Option Ins)) (u v : Option SV), δ' = [some (.r A.q), some (.d (.int left)), some (.r A.p), some (.d (.int base)), some (.r z), u, v, none, none, none, none, none, none] ∧ Gn A S S' { g8 with code := cd } ∧ S' z = some (intsL st) ∧ cd.length = g8.code.length ∧ (∀ i, some i ∈ cd → i.sm) ∧ (∀ i : Nat, cd[i]? = some none → ∃ k, ((i : Int), k) ∈ r) ∧ ∀ x ∈ r, x ∈ g8.calls)
    ⟨g8.code, u, none, rfl, G8, hz8, rfl, ok8.c0, pa8, fun _ h => h⟩ (fun r δ' S' ⟨cd, u, v, _, G, _⟩ => G.k) ?_ ?_)
  · rintro ⟨at', ix⟩ r δ' S' ⟨cd, u, v, rfl, G, hz9, hlen, hsm, hpe, hsub⟩
    have hx := ok8.k0 (at', ix) (hsub _ List.mem_cons_self)
    dsimp only at hx
    obtain ⟨s, hs, hat⟩ := atI_int (ns := st) (k := ix) hx.2.1 (by rw [hst]; exact hx.2.2)
    have hsb2 := hsb s hs
    have hc3 := gz8.c
    refine gw_tup (gws_cons (gws_cons (gws_nil ?_)))
    refine sws_fix (S0 := S') (i := at'.toNat) (x := ⟨"jal", 1, s - at', 0⟩) (EV.is (ev_tup (ds := [.str "jal", .int 1, .int (s - at')]) (av_cons ev_str (av_cons ev_int (av_cons (ev_sub (ev_ixO (v := .d (.int s)) (ev_var rfl) (ev_var rfl) hz9 ?_) (ev_var rfl)) av_nil))) rfl rfl) (by show _ = SV.d (Ins.D _); rw [ins3 ojal.1 ojal.2.1])) (ev_var rfl) (EV.is (ev_var rfl) (by rw [Int.toNat_of_nonneg hx.1.1])) G.self (by dsimp only; omega) fun S9 G9 => sws_nil ⟨cd.set at'.toNat (some _), _, _, rfl, G.from G9, G9.keep zA hz9, by rw [List.length_set]; exact hlen, fun i hi => ?_, fun i hi => ?_, fun x hx => hsub x (List.mem_cons_of_mem _ hx)⟩
    · unfold atI at hat ⊢
      rw [List.length_map] at hat
      rw [List.length_map, List.length_map]
      cases e : ixN st.length ix with
      | none => rw [e] at hat; cases hat
      | some j =>
        rw [e] at hat
        have hat : (st.map PyData.int)[j]? = some (.int s) := hat
        show ((st.map PyData.int).map SV.d)[j]? = _
        rw [List.getElem?_map, hat]; rfl
    · rcases List.mem_or_eq_of_mem_set hi with h | h
      · exact hsm i h
      · cases h
        exact sm_of ojal.2.2 (by decide) (by omega) (by decide)
    · by_cases e : at'.toNat = i
      · rw [e, List.getElem?_set_self (by omega)] at hi
        cases hi
      · rw [List.getElem?_set_ne e] at hi
        obtain ⟨k2, hk2⟩ := hpe i hi
        rcases List.mem_cons.mp hk2 with h | h
        · cases h
          exact absurd (Int.toNat_natCast i) e
        · exact ⟨k2, h⟩
  rintro δ' S9 ⟨cd, u, v, rfl, G9, hz9, hlen, hsm, hpe, _⟩
  obtain ⟨il, rfl, hil⟩ := code_all hsm fun i h => by obtain ⟨k2, h2⟩ := hpe i h; exact absurd h2 List.not_mem_nil
  rw [List.length_map] at hlen
  have hl1 := gz8.lo
  have hl2 := gz8.c
  have hw2 := gz8.w
  have hw0 := ok8.w0
  have hcL : S9 A.c = some (.lst ((il.map Ins.D).map SV.d)) := by
    have e : (il.map some).map optI = il.map Ins.D := by rw [List.map_map]; rfl
    rw [← e]; exact G9.c
  have hwl : ({ g8 with code := il.map some } : GS).words = g8.words := rfl
  generalize ({ g8 with code := il.map some } : GS) = g9 at *
  clear hpe hsm hz9 hz8 pa8 gz8 ok8 G8 hsb hst
  refine sws_cons (sw_setLc (by rw [B.sc]; decide +kernel) (lcMG (D := Ins.D) (ts := il) (F := fun i => .int (encF i)) [("_law_instruction", 12)] [false, false, false, false, false, false, false, false, false, false, false, false, true] [false, false, false, false, false, false, false, false, false, false, false, false, true] ["encode"] (by decide +kernel) (by decide +kernel) (by decide) (iw_own (ev_gcode (ev_var rfl) G9) hcL) hcL (by unfold sizeLine; omega) (fun X1 _ i hi => ev_call (by tm_at "av") ⟨i, rfl, hil i hi, rfl, rfl⟩) fun y hy => ?_) (swaps_true B.sc (by decide +kernel)))
  have yA := G9.noA hy
  have yS := G9.fresh hy
  have G10 := G9.other (o := intsL (il.map encF)) yA yS
  have hy10 : (supd S9 y (intsL (il.map encF))) y = some (intsL (il.map encF)) := supd_same
  have e10 : (il.map fun i => PyData.int (encF i)).map SV.d = ((il.map encF).map PyData.int).map SV.d := by rw [List.map_map, List.map_map, List.map_map]; rfl
  rw [e10]
  show SWs X _ _ (supd S9 y (intsL (il.map encF))) _
  have hwsl : (il.map encF).length = il.length := List.length_map _
  generalize il.map encF = ws0 at *
  generalize supd S9 y (intsL ws0) = S10 at *
  clear e10 hcL hil hy
  refine sws_cons (SW.mono (E := { nx := fun δ' S' => ∃ ws : List Int, ws.length = il.length ∧ δ' = [some (.r A.q), some (.d (.int left)), some (.r A.p), some (.d (.int base)), some (.r z), u, v, some (.r y), none, none, none, none, none] ∧ Gn A S S' g9 ∧ S' y = some (intsL ws), rt := R, bk := fun _ _ => False, ct := fun _ _ => False }) ?st ?nx (fun _ _ h => h) (fun _ _ h => h.elim) fun _ _ h => h.elim)
  case st =>
    refine sw_ifW (tw_eqI (ew_takeG (ev_var rfl) G10.self ev_int (by decide) (by decide) fun t S11 t0 t1 G11 _ => ⟨t, rfl, ifB (fun h => ?_) fun h => sws_nil ⟨ws0, hwsl, rfl, G10.from G11, G11.keep yA hy10⟩⟩))
    have hy11 := G11.keep yA hy10
    have G11 := G10.from G11
    refine sws_one (sw_asg (ew_ixD <| EV.use (ev_lst (ds := ([0, 4294967295, 7] : List Int).map PyData.int) (by tm_at "av") rfl rfl) <| ew_takeG (ev_var rfl) G11.self ev_int (by decide) (by decide) fun x S12 x0 x1 G12 _ => ?_))
    obtain ⟨f, hf, hat⟩ := atI_int (ns := [0, 4294967295, 7]) x0 x1
    have hy12 := G12.keep yA hy11
    have G12 := G11.from G12
    refine ⟨_, x, _, rfl, rfl, hat, gw_setL (EV.use (ev_var rfl) <| ew_takeG (ev_var rfl) G12.self (EV.is (ev_lenO (ev_var rfl) hy12) (by rw [List.length_map, List.length_map])) (by omega) (by omega) fun j S13 j0 j1 G13 _ => ?_)⟩
    have hy13 := G13.keep yA hy12
    have G13 := G12.from G13
    refine ⟨y, _, j.toNat, j, rfl, rfl, hy13, ?_, ws0.set j.toNat f, by rw [List.length_set]; exact hwsl, rfl, G13.other yA yS, ?_⟩
    · rw [List.length_map, List.length_map]
      have z2 := ixN_nat' (n := ws0.length) (j := j.toNat) (by omega)
      rw [Int.toNat_of_nonneg j0] at z2
      exact z2
    · rw [supd_same]
      refine congrArg (fun z => some (MO.lst z)) ?_
      rw [List.map_set, List.map_set]
  clear hy10 G10 hwsl ws0
  rintro δ' S11 ⟨ws, hwsl, rfl, G11, hy11⟩
  refine sws_cons <| sw_set <| ew_catO <| ew_lstO <| aw_cons <| ew_takeG (ev_var rfl) G11.self ev_int (by decide) (by decide) fun x S12 x0 x1 G12 _ => ?_
  have hy12 := G12.keep yA hy11
  have G12 := G11.from G12
  refine AV.use (av_cons ev_int (av_cons ev_int (av_cons (ev_var rfl) (av_cons (ev_add (ev_var rfl) ev_int) av_nil)))) ⟨sz_ok rfl, fun a ha => ?_⟩
  refine ew_lstO (AV.use (av_cons (ev_var rfl) (av_cons (ev_var rfl) (av_cons (ev_var rfl) (av_cons (ev_var rfl) av_nil)))) ⟨sz_ok rfl, fun b hb => ⟨a, b, _, _, rfl, rfl, by rw [supd_ne (sup_ne hb)]; exact supd_same, supd_same, Nat.le_of_ble_eq_true rfl, fun l hl => ?_⟩⟩)
  have lA := G12.noA (sup_pn (sup_pn hl))
  have lS := G12.fresh (sup_pn (sup_pn hl))
  have G13 := ((G12.other (o := .lst [.d (.int x), .d (.int 5), .d (.int 0), .d (.int base), .d (.int (base + 8))]) (G12.noA ha) (G12.fresh ha)).other (o := .lst [.d (.int base), .d (.int base), .d (.int base), .d (.int base)]) (G12.noA (sup_pn hb)) (G12.fresh (sup_pn hb))).other (o := intsL [x, 5, 0, base, base + 8, base, base, base, base]) lA lS
  have ny : ∀ {r : Addr}, S12 r = none → y ≠ r := fun h e => by rw [e, h] at hy12; cases hy12
  have yl : y ≠ l := ny (sup_pn (sup_pn hl))
  have hy13 : (supd (supd (supd S12 a (.lst [.d (.int x), .d (.int 5), .d (.int 0), .d (.int base), .d (.int (base + 8))])) b (.lst [.d (.int base), .d (.int base), .d (.int base), .d (.int base)])) l (intsL [x, 5, 0, base, base + 8, base, base, base, base])) y = some (intsL ws) := by
    rw [supd_ne yl, supd_ne (ny (sup_pn hb)), supd_ne (ny ha)]; exact hy12
  have hl13 : (supd (supd (supd S12 a (.lst [.d (.int x), .d (.int 5), .d (.int 0), .d (.int base), .d (.int (base + 8))])) b (.lst [.d (.int base), .d (.int base), .d (.int base), .d (.int base)])) l (intsL [x, 5, 0, base, base + 8, base, base, base, base])) l = some (intsL [x, 5, 0, base, base + 8, base, base, base, base]) := supd_same
  show SWs X _ _ (supd (supd (supd S12 a (.lst [.d (.int x), .d (.int 5), .d (.int 0), .d (.int base), .d (.int (base + 8))])) b (.lst [.d (.int base), .d (.int base), .d (.int base), .d (.int base)])) l (intsL [x, 5, 0, base, base + 8, base, base, base, base])) _
  generalize supd (supd (supd S12 a (.lst [.d (.int x), .d (.int 5), .d (.int 0), .d (.int base), .d (.int (base + 8))])) b (.lst [.d (.int base), .d (.int base), .d (.int base), .d (.int base)])) l (intsL [x, 5, 0, base, base + 8, base, base, base, base]) = S13 at *
  have htb : ([x, 5, 0, base, base + 8, base, base, base, base] : List Int).length = 9 := rfl
  generalize ([x, 5, 0, base, base + 8, base, base, base, base] : List Int) = tb0 at *
  clear ha hb hl ny G12 hy12 G11 hy11
  refine sws_cons (sw_forT (D := prD) (ts := g9.words) (iw_own (ev_gwords (ev_var rfl) G13) G13.w)
    (fun r δ' S' => ∃ (tb : List Int) (v o : Option SV), δ' = [some (.r A.q), some (.d (.int left)), some (.r A.p), some (.d (.int base)), some (.r z), u, v, some (.r y), some (.r l), o, none, none, none] ∧ Gn A S S' g9 ∧ S' y = some (intsL ws) ∧ S' l = some (intsL tb) ∧ tb.length = 9 ∧ ∀ x ∈ r, x ∈ g9.words)
    ⟨tb0, v, none, rfl, G13, hy13, hl13, htb, fun _ h => h⟩ (fun r δ' S' ⟨_, _, _, _, G, _⟩ => G.w) ?_ ?_)
  · rintro ⟨of, at'⟩ r δ' S14 ⟨tb, v, o, rfl, G14, hy14, hl14, htb, hsub⟩
    have hx := hw0 (of, at') (by rw [← hwl]; exact hsub _ List.mem_cons_self)
    dsimp only at hx
    refine gw_tup (gws_cons (gws_cons (gws_nil ?_)))
    refine sws_setO (j := (of / 4).toNat) (ev_add (ev_var rfl) (ev_mul ev_int (ev_var rfl) (.inl ⟨by decide, by decide⟩))) (ev_var rfl) (ev_fdivP (ev_var rfl) ev_int (by decide) (by decide)) hl14 ?_ (sws_nil ⟨tb.set (of / 4).toNat (base + 4 * at'), _, _, rfl, G14.other lA lS, by rw [supd_ne yl]; exact hy14, ?_, by rw [List.length_set]; exact htb, fun x hx => hsub x (List.mem_cons_of_mem _ hx)⟩)
    · rw [List.length_map, List.length_map, htb]
      have z2 := ixN_nat' (n := 9) (j := (of / 4).toNat) (by omega)
      rw [Int.toNat_of_nonneg (by omega)] at z2
      exact z2
    · rw [supd_same]
      refine congrArg (fun z => some (MO.lst z)) ?_
      rw [List.map_set, List.map_set]
  clear htb hl13 hy13 G13 tb0 hw0 hwl
  rintro δ' S14 ⟨tb, v', o, rfl, G14, hy14, hl14, htb, _⟩
  refine sws_cons (sw_setLc (by rw [B.sc]; decide +kernel) (lc_one [("_law_k", 5)] [true, false, false, false, false, true, false, false, false, false, false, false, false] [false, false, false, false, false, true, false, false, false, false, false, false, false] ["_law_take"] (by decide +kernel) (by decide +kernel) (by decide) (iw_range1 (n := 32) ev_int (by decide) (by decide)) (by unfold intsFrom; rw [List.length_map, List.length_range]; decide)
    (fun r acc S' => ∃ vs : List Int, acc = (vs.map PyData.int).map SV.d ∧ (∀ v ∈ vs, 0 ≤ v ∧ v ≤ 255) ∧ vs.length + r.length = 32 ∧ Gn A S S' g9 ∧ S' y = some (intsL ws) ∧ S' l = some (intsL tb))
    ⟨[], rfl, fun _ h => absurd h List.not_mem_nil, by unfold intsFrom; rw [List.length_map, List.length_range]; rfl, G14, hy14, hl14⟩ (fun _ _ _ _ => trivial) ?_ ?_) (swaps_true B.sc (by decide +kernel)))
  · rintro X1 _ d r acc S15 ⟨vs, rfl, hvs, hlen2, G15, hy15, hl15⟩
    refine ew_takeG (ev_var rfl) G15.self ev_int (by decide) (by decide) fun x S16 x0 x1 G16 _ => ⟨vs ++ [x], by simp, fun v hv => ?_, by rw [List.length_append, List.length_singleton]; rw [List.length_cons] at hlen2; omega, G15.from G16, G16.keep yA hy15, G16.keep lA hl15⟩
    rcases List.mem_append.mp hv with h | h
    · exact hvs v h
    · rw [List.mem_singleton.mp h]; omega
  rintro acc S15 ⟨vs, rfl, hvs, hlen2, G15, hy15, hl15⟩ vv hvv
  have vlen : vs.length = 32 := hlen2
  have vA := G15.noA hvv
  have vS := G15.fresh hvv
  have G16 := G15.other (o := intsL vs) vA vS
  have yv : y ≠ vv := fun e => by rw [e, hvv] at hy15; cases hy15
  have lv : l ≠ vv := fun e => by rw [e, hvv] at hl15; cases hl15
  have hy16 : (supd S15 vv (intsL vs)) y = some (intsL ws) := by rw [supd_ne yv]; exact hy15
  have hl16 : (supd S15 vv (intsL vs)) l = some (intsL tb) := by rw [supd_ne lv]; exact hl15
  have hv16 : (supd S15 vv (intsL vs)) vv = some (intsL vs) := supd_same
  show SWs X _ _ (supd S15 vv (intsL vs)) _
  generalize supd S15 vv (intsL vs) = S16 at *
  clear G15 hy15 hl15 hvv G14 hy14 hl14
  have kp16 := hfin G16
  have dr16 := G16.q
  have qy : A.q ≠ y := fun e => yA (e ▸ A.mq)
  have ql : A.q ≠ l := fun e => lA (e ▸ A.mq)
  have qv : A.q ≠ vv := fun e => vA (e ▸ A.mq)
  refine sws_frz (i := 7) (q := y) (S' := dropS S16 y) (ds := ws.map PyData.int) rfl hy16 dropS_le dropS_self ?_
  refine sws_frz (i := 8) (q := l) (S' := dropS (dropS S16 y) l) (ds := tb.map PyData.int) rfl (by rw [dropS_ne (Ne.symm yl)]; exact hl16) dropS_le dropS_self ?_
  refine sws_frz (i := 10) (q := vv) (S' := dropS (dropS (dropS S16 y) l) vv) (ds := vs.map PyData.int) rfl (by rw [dropS_ne (Ne.symm lv), dropS_ne (Ne.symm yv)]; exact hv16) dropS_le dropS_self ?_
  have kp17 := ((kp16.drop yS).drop lS).drop vS
  have dr17 : Dr (dropS (dropS (dropS S16 y) l) vv) A.q := dr16.keep (by rw [dropS_ne qv, dropS_ne ql, dropS_ne qy])
  generalize dropS (dropS (dropS S16 y) l) vv = S17 at *
  clear hy16 hl16 hv16 kp16 dr16 G16 yv lv vS lS yS yA lA vA
  refine sws_newL (xs := [.d (Seg.D ⟨base, bytesF ws, false, true⟩), .d (Seg.D ⟨16384, vs, true, false⟩)]) (av_cons (ev_tup (ds := [.int base, .tuple ((bytesF ws).map PyData.int), .bool false, .bool true]) (av_cons (ev_var rfl) (av_cons (ev_call (by tm_at "av") ⟨ws, rfl, by omega, rfl, rfl⟩) (av_cons ev_bl (av_cons ev_bl av_nil)))) rfl rfl)
    (av_cons (ev_tup (ds := [.int 16384, .tuple (vs.map PyData.int), .bool true, .bool false]) (av_cons ev_int (av_cons (ev_tupleL (ev_var rfl)) (av_cons ev_bl (av_cons ev_bl av_nil)))) rfl rfl) av_nil)) (sz_ok rfl) fun sg hsg => ?_
  refine sws_app (v := .d (Seg.D ⟨32768, bytesF tb, false, false⟩)) (ev_var rfl) supd_same (ev_tup (ds := [.int 32768, .tuple ((bytesF tb).map PyData.int), .bool false, .bool false]) (av_cons ev_int (av_cons (ev_call (by tm_at "av") ⟨tb, rfl, by omega, rfl, rfl⟩) (av_cons ev_bl (av_cons ev_bl av_nil)))) rfl rfl) (by exact (by decide : (2 : Nat) < sizeLine)) ?_
  have hsq : A.q ≠ sg := fun e => dr17.some (by rw [e]; exact hsg)
  rw [supd_supd]
  have kp18 := kp17.new (o := .lst ([SV.d (Seg.D ⟨base, bytesF ws, false, true⟩), .d (Seg.D ⟨16384, vs, true, false⟩)] ++ [.d (Seg.D ⟨32768, bytesF tb, false, false⟩)])) hsg
  have dr18 : Dr (supd S17 sg (.lst ([SV.d (Seg.D ⟨base, bytesF ws, false, true⟩), .d (Seg.D ⟨16384, vs, true, false⟩)] ++ [.d (Seg.D ⟨32768, bytesF tb, false, false⟩)]))) A.q := dr17.keep (supd_ne hsq)
  have hg : GoodI ⟨[⟨base, bytesF ws, false, true⟩, ⟨16384, vs, true, false⟩, ⟨32768, bytesF tb, false, false⟩], base⟩ := ⟨base, ws, vs, tb, hbase, by omega, by omega, hvs, by omega, rfl⟩
  have hR := hR _ _ hg kp18 dr18
  refine sws_one (sw_ret (ew_tup (aw_cons (ew_tupleO ((ev_var rfl).use ⟨sg, [Seg.D ⟨base, bytesF ws, false, true⟩, Seg.D ⟨16384, vs, true, false⟩, Seg.D ⟨32768, bytesF tb, false, false⟩], rfl, supd_same, AV.use (av_cons (ev_var rfl) (av_cons (ev_tup (ds := []) av_nil rfl rfl) av_nil)) ⟨_, rfl, sz_ok rfl, hR⟩⟩)))))
end
end K23
/-! plain law 5: the law's images; tables of the right form -/
namespace K23
open PySem PySem.Spec PyProof.Rows L2
theorem and3 {x : Int} (h : 0 ≤ x) : Builtin.bitAnd x 3 = x % 4 := by
  rw [PyProof.Rows.bitAnd_pp h (by decide)]
  have e : (3 : Int).toNat = 2 ^ 2 - 1 := rfl
  rw [e, Nat.and_two_pow_sub_one_eq_mod]
  omega
/-- what is used of an image -/
structure PG (m : Img) : Prop where
  ok : m.ok
  iff : ∀ t, placeB m t = true ↔ t ∈ placesF m
  asc : (placesF m).Pairwise (· < ·)
  len : (placesF m).length ≤ 1000
  bd : ∀ t ∈ placesF m, (0 ≤ t ∧ t < 2 ^ 20) ∧ t % 4 = 0
theorem good_pg {m : Img} (h : GoodI m) : PG m := by
  obtain ⟨base, ws, vs, ts, hb, l1, l2, hv, l3, hs⟩ := h
  have lw := bytes_len ws
  have lt := bytes_len ts
  have hok : m.ok := by
    refine ⟨by rw [hs]; exact (by decide : (3 : Nat) ≤ 100), fun s h => ?_⟩
    rw [hs] at h
    simp only [List.mem_cons, List.not_mem_nil, or_false] at h
    rcases h with e | e | e
    · subst e; exact ⟨bytes_bd, by dsimp only; omega, by dsimp only; omega, by dsimp only; omega⟩
    · subst e; exact ⟨hv, by dsimp only; omega, by dsimp only; omega, by dsimp only; omega⟩
    · subst e; exact ⟨bytes_bd, by dsimp only; omega, by dsimp only; omega, by dsimp only; omega⟩
  have hp : placesF m = (List.range ws.length).map fun (t : Nat) => base + (0 + (t : Int) * 4) := by
    unfold placesF
    rw [hs]
    show placesS ⟨base, bytesF ws, false, true⟩ ++ (placesS ⟨16384, vs, true, false⟩ ++ (placesS ⟨32768, bytesF ts, false, false⟩ ++ [])) = _
    unfold placesS
    rw [if_pos rfl, if_neg Bool.false_ne_true, if_neg Bool.false_ne_true, List.append_nil, List.append_nil, List.append_nil]
    dsimp only
    rw [lw]
    congr 2
    omega
  have hm : ∀ t, t ∈ placesF m ↔ (base ≤ t ∧ t + 4 ≤ base + 4 * (ws.length : Int)) ∧ t % 4 = 0 := fun t => by
    rw [hp, List.mem_map]
    constructor
    · rintro ⟨i, hi, rfl⟩
      have := List.mem_range.mp hi
      omega
    · rintro ⟨h1, h2⟩
      exact ⟨((t - base) / 4).toNat, List.mem_range.mpr (by omega), by omega⟩
  have hpl : ∀ t, placeB m t = true ↔ (base ≤ t ∧ t + 4 ≤ base + 4 * (ws.length : Int)) ∧ t % 4 = 0 := fun t => by
    unfold placeB
    rw [Bool.and_eq_true_iff, Bool.and_eq_true_iff, decide_eq_true_iff, decide_eq_true_iff]
    by_cases hin : inSeg ⟨base, bytesF ws, false, true⟩ t 4 = true
    · have hf : findS m t 4 = 0 := by
        unfold findS
        rw [hs]
        unfold fsA
        rw [if_pos hin]; rfl
      have hi : base ≤ t ∧ t + 4 ≤ base + ((bytesF ws).length : Int) := by
        obtain ⟨a, b⟩ := Bool.and_eq_true_iff.mp (show (decide (base ≤ t) && decide (t + 4 ≤ base + ((bytesF ws).length : Int))) = true from hin)
        exact ⟨of_decide_eq_true a, of_decide_eq_true b⟩
      rw [lw] at hi
      have hx : (segAt m 0).x = true := by unfold segAt; rw [hs]; rfl
      rw [hf, and3 (by omega)]
      constructor
      · rintro ⟨h1, _⟩
        exact ⟨⟨hi.1, by omega⟩, h1⟩
      · rintro ⟨_, h1⟩
        exact ⟨h1, Int.le_refl _, hx⟩
    · have hno : ¬ (base ≤ t ∧ t + 4 ≤ base + 4 * (ws.length : Int)) := fun ⟨a, b⟩ => hin (Bool.and_eq_true_iff.mpr ⟨decide_eq_true a, decide_eq_true (by dsimp only; rw [lw]; omega)⟩)
      constructor
      · rintro ⟨_, h2, h3⟩
        exfalso
        have hf : findS m t 4 = fsA t 4 [⟨16384, vs, true, false⟩, ⟨32768, bytesF ts, false, false⟩] 1 := by
          unfold findS
          rw [hs]
          conv => lhs; unfold fsA
          rw [if_neg hin]
        rcases fsA_ok (a := t) (c := 4) [⟨16384, vs, true, false⟩, ⟨32768, bytesF ts, false, false⟩] 1 with e | ⟨i, s, e1, e2, e3⟩
        · rw [hf, e] at h2; omega
        · rw [hf, e3] at h3
          unfold segAt at h3
          rw [hs, Int.toNat_natCast] at h3
          match i, e1, h3 with
          | 0, _, h3 => cases h3
          | 1, _, h3 => cases h3
      · rintro ⟨h1, _⟩
        exact absurd h1 hno
  refine ⟨hok, fun t => (hpl t).trans (hm t).symm, ?_, by rw [hp, List.length_map, List.length_range]; exact l1, fun t ht => ?_⟩
  · rw [hp]
    refine List.pairwise_map.mpr (List.Pairwise.imp (fun {a b} h => ?_) List.pairwise_lt_range)
    omega
  · have := (hm t).mp ht
    omega
theorem PG.ent {m : Img} (h : PG m) (e : Int) : PG { m with entry := e } := ⟨h.ok, h.iff, h.asc, h.len, h.bd⟩
/-! ### forms -/
theorem tame_int (i : Int) : tame 0 (.int i) := ⟨lay_int, rfl⟩
theorem tame_none : tame 0 .none := ⟨lay_none, rfl⟩
theorem tame_strW : tame 0 strW := ⟨strW_lay, rfl⟩
theorem tame_strR : tame 0 strR := ⟨strR_lay, rfl⟩
theorem tame_ints {ns : List Int} (h : ns.length < 2 ^ 20) : tame 1 (.tuple (ns.map PyData.int)) := tame_tup (fun d hd => by obtain ⟨i, _, rfl⟩ := List.mem_map.mp hd; exact tame_int i) (by rw [List.length_map]; exact h)
theorem tame_fact {f : Fact} (h : f.okE) : tame 2 f.D := by
  cases f with
  | top => exact tame_none.up (by decide)
  | words ws =>
    refine tame_tup (fun d hd => ?_) (Nat.le_of_ble_eq_true rfl)
    rcases List.mem_cons.mp hd with e | hd
    · rw [e]; exact tame_strW.up (by decide)
    · rw [List.mem_singleton.mp hd]; exact tame_ints (Nat.lt_of_le_of_lt h.2.2 (by decide))
  | range lo hi =>
    refine tame_tup (fun d hd => ?_) (Nat.le_of_ble_eq_true rfl)
    rcases List.mem_cons.mp hd with e | hd
    · rw [e]; exact tame_strR.up (by decide)
    · rcases List.mem_cons.mp hd with e | hd
      · rw [e]; exact (tame_int lo).up (by decide)
      · rw [List.mem_singleton.mp hd]; exact (tame_int hi).up (by decide)
theorem tame_FD {fs : Facts} (h : okT fs) : tame 3 (FD fs) := tame_tup (fun d hd => by obtain ⟨f, hf, rfl⟩ := List.mem_map.mp hd; exact tame_fact (h.2 f hf).1) (by rw [List.length_map, h.1]; decide)
theorem tame_pair {n : Nat} {a : Int} {f : PyData} (h : tame n f) : tame (n + 1) (.tuple [.int a, f]) := tame_tup (fun d hd => by
  rcases List.mem_cons.mp hd with e | hd
  · rw [e]; exact (tame_int a).up (Nat.zero_le _)
  · rw [List.mem_singleton.mp hd]; exact h) (Nat.le_of_ble_eq_true rfl)
theorem tame_row {p : Row} (h : okT p.2) : tame 4 (rowD p) := tame_pair (tame_FD h)
theorem ascB_true {ns : List Int} (h : ns.Pairwise (· < ·)) : ascB ns = true := by
  unfold ascB
  refine List.all_eq_true.mpr fun i hi => ?_
  have hi := List.mem_range.mp hi
  have h1 : i + 1 < ns.length := by omega
  rw [List.getElem?_eq_getElem (show i < ns.length by omega), List.getElem?_eq_getElem h1]
  exact decide_eq_true (asc_lt h (Nat.lt_succ_self i) h1)
theorem ints_words {ws : List Int} (h : ∀ w ∈ ws, okW w) : (ws.map PyData.int).all isWordD = true := by
  refine List.all_eq_true.mpr fun d hd => ?_
  obtain ⟨i, hi, rfl⟩ := List.mem_map.mp hd
  have := h i hi
  exact Bool.and_eq_true_iff.mpr ⟨decide_eq_true this.1, decide_eq_true this.2⟩
theorem ints_intOf (ws : List Int) : (ws.map PyData.int).map intOf = ws := by
  rw [List.map_map]
  exact List.map_id' ws
theorem fact_form {f : Fact} (h : f.ok) : isFactD f.D = true := by
  cases f with
  | top => rfl
  | words ws =>
    have e1 : PyData.eqv (PyData.str "words") strW = true := by decide +kernel
    have h1 : 1 ≤ ws.length := by
      cases ws with
      | nil => exact absurd rfl h.2
      | cons a r => simp
    show (match PyData.eqv (PyData.str "words") strW, some (ws.map PyData.int) with | true, some ds => factWs ds | _, _ => false) = true
    rw [e1]
    show factWs (ws.map PyData.int) = true
    unfold factWs
    rw [ints_words h.1.2.1, ints_intOf, List.length_map, decide_eq_false (by omega), decide_eq_false (by have := h.1.2.2; omega), if_neg (by decide)]
    exact ascB_true h.1.1
  | range lo hi =>
    have e1 : PyData.eqv (PyData.str "range") strR = true := by decide +kernel
    have := h.1
    show (if PyData.eqv (PyData.str "range") strR = true then isWordD (.int lo) && (isWordD (.int hi) && decide (lo < hi)) else false) = true
    rw [if_pos e1]
    have o : lo < hi := this.2.1
    have o2 : 0 ≤ lo := this.1
    have o3 : hi ≤ TOPn := this.2.2
    refine Bool.and_eq_true_iff.mpr ⟨?_, Bool.and_eq_true_iff.mpr ⟨?_, decide_eq_true o⟩⟩
    · exact Bool.and_eq_true_iff.mpr ⟨decide_eq_true o2, decide_eq_true (by omega)⟩
    · exact Bool.and_eq_true_iff.mpr ⟨decide_eq_true (by omega), decide_eq_true o3⟩
theorem w0_eqv : PyData.eqv w0D w0D = true := (eqv_iff _ _ (by decide +kernel) (by decide +kernel)).mpr rfl
theorem row_form {fs : Facts} (h : okT fs) (z : zH fs) : rowFs (fs.map Fact.D) = true := by
  cases fs with
  | nil => cases h.1
  | cons f r =>
    have e : f = .words [0] := by
      have z : some f = some (Fact.words [0]) := z
      exact Option.some.inj z
    have hl : (Fact.D f :: r.map Fact.D).length = 16 := by rw [List.length_cons, List.length_map]; exact h.1
    show (decide ((Fact.D f :: r.map Fact.D).length = 16) && (PyData.eqv f.D w0D && (Fact.D f :: r.map Fact.D).all isFactD)) = true
    rw [decide_eq_true hl]
    refine Bool.and_eq_true_iff.mpr ⟨rfl, Bool.and_eq_true_iff.mpr ⟨by rw [e]; exact w0_eqv, List.all_eq_true.mpr fun d hd => ?_⟩⟩
    have hd : d ∈ (f :: r).map Fact.D := hd
    obtain ⟨g, hg, rfl⟩ := List.mem_map.mp hd
    exact fact_form (h.2 g hg)
/-- tables of the right form -/
structure GoodT (m : Img) (rs : List Row) : Prop where
  ok : tabOk m rs
  z : ∀ p ∈ rs, zH p.2
theorem rowD_ok {m : Img} (pg : PG m) {p : Row} (hp : placeB m p.1 = true) (h : okT p.2) (z : zH p.2) : rowOkD m (rowD p) = true := by
  show (isWordD (.int p.1) && (placeB m p.1 && rowFs (p.2.map Fact.D))) = true
  have b := (pg.bd _ ((pg.iff _).mp hp)).1
  rw [hp, row_form h z]
  have e : isWordD (.int p.1) = true := Bool.and_eq_true_iff.mpr ⟨decide_eq_true b.1, decide_eq_true (by unfold TOPn; omega)⟩
  rw [e]; rfl
theorem tab_adr (rs : List Row) : (rs.map rowD).map adrOf = rs.map (·.1) := by
  rw [List.map_map]; rfl
theorem tab_form {m : Img} (pg : PG m) {rs : List Row} (h : GoodT m rs) : isTableD m (tabD rs) = true := by
  obtain ⟨⟨h1, h2, h3⟩, h4⟩ := h
  show ((rs.map rowD).all (rowOkD m) && ascB ((rs.map rowD).map adrOf)) = true
  rw [tab_adr, ascB_true h2, Bool.and_true, List.all_eq_true]
  intro d hd
  obtain ⟨p, hp, rfl⟩ := List.mem_map.mp hd
  exact rowD_ok pg (h3 p hp).1 (h3 p hp).2 (h4 p hp)
theorem tab_tame {m : Img} {rs : List Row} (h : tabOk m rs) : tame 5 (tabD rs) := tame_tup (fun d hd => by
  obtain ⟨p, hp, rfl⟩ := List.mem_map.mp hd
  exact tame_row (h.2.2 p hp).2) (by rw [List.length_map]; exact h.1)
/-! ### the plain table -/
theorem nothing_ok : okT nothing := ⟨rfl, fun f hf => by
  rcases List.mem_cons.mp hf with e | e
  · rw [e]; exact one_ok ⟨by decide, by decide⟩
  · rw [List.eq_of_mem_replicate e]; exact top_ok⟩
theorem nothing_z : zH nothing := rfl
theorem plain_keys (m : Img) : (plainF m).map (·.1) = placesF m := by
  unfold plainF
  rw [List.map_map]
  exact List.map_id' _
theorem plain_good {m : Img} (pg : PG m) : GoodT m (plainF m) := by
  have hm : ∀ p ∈ plainF m, p.1 ∈ placesF m ∧ p.2 = nothing := fun p hp => by
    obtain ⟨a, ha, rfl⟩ := List.mem_map.mp hp
    exact ⟨ha, rfl⟩
  refine ⟨⟨?_, by rw [plain_keys]; exact pg.asc, fun p hp => ⟨(pg.iff _).mpr (hm p hp).1, by rw [(hm p hp).2]; exact nothing_ok⟩⟩, fun p hp => by rw [(hm p hp).2]; exact nothing_z⟩
  unfold plainF
  rw [List.length_map]
  have := pg.len
  omega
theorem plain_val {m : Img} (pg : PG m) {t : Int} (h : placeB m t = true) : valT (plainF m) t = some nothing := by
  obtain ⟨i, hi, e⟩ := List.mem_iff_getElem.mp ((pg.iff t).mp h)
  refine valT_at (i := i) (by rw [plain_keys]; exact pg.asc) ?_
  unfold plainF
  rw [List.getElem?_map, List.getElem?_eq_getElem hi, e]; rfl
theorem le_nothing {fs : Facts} (z : zH fs) : leF fs nothing := fun i f g h1 h2 => by
  cases i with
  | zero =>
    rw [z] at h1
    have h2 : some (Fact.words [0]) = some g := h2
    cases h1; cases h2
    exact le.refl _
  | succ i =>
    have h2 : (List.replicate 15 Fact.top)[i]? = some g := h2
    rw [List.getElem?_replicate] at h2
    split at h2
    · cases h2; exact fun _ _ _ => rfl
    · cases h2
theorem whole_plain {m : Img} (pg : PG m) : wholeF m (plainF m) = true := by
  unfold wholeF
  refine Bool.and_eq_true_iff.mpr ⟨decide_eq_true (by unfold plainF; rw [List.length_map]), List.all_eq_true.mpr fun t ht => ?_⟩
  rw [plain_keys] at ht
  rw [plain_val pg ((pg.iff t).mpr ht)]
  exact FD_eqv.mpr rfl
theorem plain_closed {m : Img} (pg : PG m) : closedF m (plainF m) = true := by
  unfold closedF
  rw [whole_plain pg]
  refine Bool.and_eq_true_iff.mpr ⟨?_, List.all_eq_true.mpr fun p hp => ?_⟩
  · unfold entF
    split
    · rename_i h
      rw [plain_val pg h]; rfl
    · rfl
  · obtain ⟨a, ha, rfl⟩ := List.mem_map.mp hp
    unfold rowCl
    dsimp only
    split
    · rfl
    · rename_i ws hw
      refine List.all_eq_true.mpr fun w hmem => ?_
      unfold rowC
      split
      · rename_i h
        rw [plain_val pg h]
        exact (fwB_iff (waysF_ok pg.ok nothing_ok hw w hmem) nothing_ok).mpr (le_nothing (waysF_zH nothing_z hw w hmem))
      · rfl
/-! ### two ascending rows -/
theorem sub_eq {xs ys : List Int} (hx : xs.Pairwise (· < ·)) (hy : ys.Pairwise (· < ·)) (h : ∀ x ∈ xs, x ∈ ys) (hl : ys.length ≤ xs.length) : xs = ys := by
  have nd : xs.Nodup := List.Pairwise.imp (fun h => by omega) hx
  refine asc_ext hx hy fun z => ⟨h z, fun hz => ?_⟩
  by_cases hm : z ∈ xs
  · exact hm
  · exfalso
    have k := nodup_len (z :: xs) ys (List.nodup_cons.mpr ⟨hm, nd⟩) fun x hx => by
      rcases List.mem_cons.mp hx with e | e
      · rw [e]; exact hz
      · exact h x e
    rw [List.length_cons] at k
    omega
theorem whole_iff {m : Img} (pg : PG m) {rs : List Row} (h : tabOk m rs) : wholeF m rs = true ↔ rs = plainF m := by
  constructor
  · intro w
    unfold wholeF at w
    obtain ⟨w1, w2⟩ := Bool.and_eq_true_iff.mp w
    have w1 := of_decide_eq_true w1
    have hk : rs.map (·.1) = placesF m := sub_eq h.2.1 pg.asc (fun x hx => by
      obtain ⟨p, hp, rfl⟩ := List.mem_map.mp hx
      exact (pg.iff _).mp (h.2.2 p hp).1) (by rw [List.length_map]; omega)
    refine List.ext_getElem (by unfold plainF; rw [List.length_map]; exact w1) fun i h1 h2 => ?_
    have e2 := List.all_eq_true.mp w2 (rs[i]).1 (List.mem_map.mpr ⟨rs[i], List.getElem_mem h1, rfl⟩)
    rw [valT_at (i := i) (v := (rs[i]).2) h.2.1 (by rw [List.getElem?_eq_getElem h1])] at e2
    have e3 : (rs[i]).2 = nothing := FD_eqv.mp e2
    have e4 : (rs.map (·.1))[i]? = (placesF m)[i]? := by rw [hk]
    rw [List.getElem?_map, List.getElem?_eq_getElem h1] at e4
    have hi2 : i < (placesF m).length := by omega
    rw [List.getElem?_eq_getElem hi2] at e4
    have e5 : (rs[i]).1 = (placesF m)[i] := Option.some.inj e4
    have e6 : (plainF m)[i] = ((placesF m)[i], nothing) := by
      unfold plainF
      exact List.getElem_map _
    rw [e6, ← e5, ← e3]
  · intro e
    rw [e]; exact whole_plain pg
theorem rowD_inj {p q : Row} (h : rowD p = rowD q) : p = q := by
  obtain ⟨a, f⟩ := p
  obtain ⟨b, g⟩ := q
  have h := PyData.tuple.inj h
  obtain ⟨h1, h⟩ := List.cons.inj h
  obtain ⟨h2, _⟩ := List.cons.inj h
  cases h1
  have e : f = g := mapD_inj (PyData.tuple.inj h2)
  rw [e]
theorem tabD_inj : ∀ {xs ys : List Row}, xs.map rowD = ys.map rowD → xs = ys
  | [], [], _ => rfl
  | [], _ :: _, h => by cases h
  | _ :: _, [], h => by cases h
  | x :: xs, y :: ys, h => by
    obtain ⟨h1, h2⟩ := List.cons.inj h
    rw [rowD_inj h1, tabD_inj h2]
theorem tabD_noB (rs : List Row) : noB (tabD rs) = true := noBAll_iff.mpr fun x hx => by
  obtain ⟨p, _, rfl⟩ := List.mem_map.mp hx
  show (true && (noB (FD p.2) && true)) = true
  rw [FD_noB]; rfl
theorem tab_eqv {xs ys : List Row} : PyData.eqv (tabD xs) (tabD ys) = true ↔ xs = ys := by
  rw [eqv_iff _ _ (tabD_noB xs) (tabD_noB ys)]
  exact ⟨fun h => tabD_inj (PyData.tuple.inj h), fun h => by rw [h]⟩
theorem whole_eqv {m : Img} (pg : PG m) {rs : List Row} (h : tabOk m rs) : PyData.eqv (tabD rs) (tabD (plainF m)) = wholeF m rs := by
  rw [Bool.eq_iff_iff, tab_eqv, whole_iff pg h]
/-! ### solve's table -/
theorem mem_tableOf {F : List Row} {p : Row} (h : p ∈ tableOf F) : hasT F p.1 = true ∧ valT F p.1 = some p.2 := by
  obtain ⟨t, ht, rfl⟩ := List.mem_map.mp h
  have hh : hasT F t = true := has_mem.mpr (isort_perm.mem_iff.mp ht)
  obtain ⟨g, hg⟩ := has_some.mp hh
  exact ⟨hh, by dsimp only; rw [hg]; rfl⟩
theorem keys_tableOf (F : List Row) : (tableOf F).map (·.1) = isort (F.map (·.1)) := by
  unfold tableOf
  rw [List.map_map]
  exact List.map_id' _
theorem lt_of_le_nd : ∀ {xs : List Int}, xs.Pairwise (· ≤ ·) → xs.Nodup → xs.Pairwise (· < ·)
  | [], _, _ => List.Pairwise.nil
  | x :: xs, h, n => by
    obtain ⟨h1, h2⟩ := List.pairwise_cons.mp h
    obtain ⟨n1, n2⟩ := List.nodup_cons.mp n
    exact List.pairwise_cons.mpr ⟨fun y hy => by
      have := h1 y hy
      have : x ≠ y := fun e => n1 (e ▸ hy)
      omega, lt_of_le_nd h2 n2⟩
theorem tableOf_asc {F : List Row} (h : (F.map (·.1)).Nodup) : ((tableOf F).map (·.1)).Pairwise (· < ·) := by
  rw [keys_tableOf]
  exact lt_of_le_nd isort_asc (isort_perm.nodup_iff.mpr h)
theorem val_tableOf {F : List Row} (h : (F.map (·.1)).Nodup) {t : Int} {g : Facts} (e : valT F t = some g) : valT (tableOf F) t = some g := by
  have hm : t ∈ isort (F.map (·.1)) := isort_perm.mem_iff.mpr (has_mem.mp (has_some.mpr ⟨g, e⟩))
  obtain ⟨i, hi, e2⟩ := List.mem_iff_getElem.mp hm
  refine valT_at (i := i) (tableOf_asc h) ?_
  unfold tableOf
  rw [List.getElem?_map, List.getElem?_eq_getElem hi, e2]
  show some (t, (valT F t).getD []) = _
  rw [e]; rfl
theorem start_has {g : Facts} (h : okT g) (l : leF start g) : (g.all fun f => f.has 0) = true := by
  refine List.all_eq_true.mpr fun f hf => ?_
  obtain ⟨i, hi⟩ := List.mem_iff_getElem?.mp hf
  have hlt : i < 16 := by rw [← h.1]; exact (List.getElem?_eq_some_iff.mp hi).1
  refine l i (.words [0]) f ?_ hi 0 ⟨by decide, by decide⟩ rfl
  unfold start
  rw [List.getElem?_replicate, if_pos hlt]
theorem solve_good {m : Img} (pg : PG m) {rs : List Row} (h : SolveR m rs) : GoodT m rs ∧ closedF m rs = true := by
  rcases h with ⟨h1, rfl⟩ | rfl | ⟨F, T, Wt, Q, I, rfl⟩
  · refine ⟨⟨⟨by decide, List.Pairwise.nil, fun p hp => absurd hp List.not_mem_nil⟩, fun p hp => absurd hp List.not_mem_nil⟩, ?_⟩
    unfold closedF entF
    rw [if_neg (by rw [h1]; decide)]; rfl
  · exact ⟨plain_good pg, plain_closed pg⟩
  · have hT : GoodT m (tableOf F) := by
      refine ⟨⟨?_, tableOf_asc I.nd, fun p hp => ?_⟩, fun p hp => ?_⟩
      · have k := nodup_len (F.map (·.1)) (placesF m) I.nd fun x hx => by
          obtain ⟨g, hg⟩ := has_some.mp (has_mem.mpr hx)
          exact (pg.iff x).mp (I.good x g hg).2.2.1
        unfold tableOf
        rw [List.length_map, isort_perm.length_eq]
        have := pg.len
        omega
      · have k := I.good _ _ (mem_tableOf hp).2
        exact ⟨k.2.2.1, k.1⟩
      · exact (I.good _ _ (mem_tableOf hp).2).2.1
    refine ⟨hT, ?_⟩
    unfold closedF
    refine Bool.and_eq_true_iff.mpr ⟨?_, List.all_eq_true.mpr fun p hp => ?_⟩
    · unfold entF
      split
      · obtain ⟨g, hg, hl⟩ := I.ent
        rw [val_tableOf I.nd hg]
        exact start_has (I.good _ _ hg).1 hl
      · rfl
    · have hv := mem_tableOf hp
      rcases I.cl p.1 hv.1 with h | ⟨g, ws, h1, h2, h3⟩
      · rw [List.drop_length] at h; exact absurd h List.not_mem_nil
      · rw [hv.2] at h1
        cases h1
        unfold rowCl
        rw [h2]
        dsimp only
        refine List.all_eq_true.mpr fun w hw => ?_
        unfold rowC
        split
        · rename_i hpw
          obtain ⟨g2, e1, e2⟩ := h3 w hw hpw
          rw [val_tableOf I.nd e1]
          exact (fwB_iff (waysF_ok pg.ok (I.good _ _ hv.2).1 h2 w hw) (I.good _ _ e1).1).mpr e2
        · rfl
end K23
/-! the law's own defs, 8: closed, other facts, forgotten *-/
namespace K23
open PySem PySem.Spec PyProof.Rows L2
theorem nil_eqv (xs : List PyData) : PyData.eqv (.list xs) (.list []) = xs.isEmpty := by
  cases xs with
  | nil => decide +kernel
  | cons x xs => simp [PyData.eqv, PyData.eqvAll]
theorem filt_empty {α β : Type} (f : α → β) (P : α → Bool) : ∀ xs : List α, ((xs.filter fun x => !P x).map f).isEmpty = xs.all P
  | [] => rfl
  | x :: xs => by
    have ih := filt_empty f P xs
    rw [List.all_cons]
    cases h : P x with
    | true => rw [List.filter_cons_of_neg (by rw [h]; decide), ih]; rfl
    | false => rw [List.filter_cons_of_pos (by rw [h]; rfl)]; rfl
theorem factAt_nat {fs : Facts} {i : Nat} (h : i < fs.length) : factAt fs (i : Int) = fs[i] := by
  unfold factAt
  rw [Int.toNat_natCast, List.getElem?_eq_getElem h]; rfl
theorem fw_range {a b : Facts} (ha : a.length = 16) (hb : b.length = 16) : ((List.range 16).all fun i => win (factAt a (i : Int)) (factAt b (i : Int))) = fwB a b := by
  rw [Bool.eq_iff_iff]
  unfold fwB
  rw [List.all_eq_true, List.all_eq_true]
  constructor
  · rintro h ⟨f, g⟩ hm
    obtain ⟨i, hi⟩ := List.mem_iff_getElem?.mp hm
    rw [List.getElem?_zip_eq_some] at hi
    obtain ⟨h1, e1⟩ := List.getElem?_eq_some_iff.mp hi.1
    obtain ⟨h2, e2⟩ := List.getElem?_eq_some_iff.mp hi.2
    have z := h i (List.mem_range.mpr (by omega))
    rw [factAt_nat h1, factAt_nat h2, e1, e2] at z
    exact z
  · intro h i hi
    have hi := List.mem_range.mp hi
    rw [factAt_nat (by omega), factAt_nat (by omega)]
    exact h (a[i], b[i]) (List.mem_of_getElem? (i := i) (by rw [List.getElem?_zip_eq_some]; exact ⟨List.getElem?_eq_getElem _, List.getElem?_eq_getElem _⟩))
theorem at_fact {fs : Facts} {i : Nat} (h : i < fs.length) : atI (fs.map Fact.D) (0 + (i : Int)) = some (factAt fs (i : Int)).D := atI0 (by rw [List.getElem?_map, List.getElem?_eq_getElem h, factAt_nat h]; rfl)
section
variable {Z : Zx} [W : W0 Z]
abbrev cClosed : Ct := fun xs S R => ∃ (m : Img) (rs : List Row), xs = [.d m.D, .d (tabD rs)] ∧ PG m ∧ tabOk m rs ∧ R (.d (.bool (closedF m rs))) S
instance ok__law_closed : HasFn Z "_law_closed" ["_law_image_here", "_law_table"] 8 cClosed := fn_intro sc__law_closed nm__law_closed (fun _ _ _ _ _ _ us hl => match us, hl with | [_, _], _ => rfl) (by tm_at "ctl") fun X B xs S R hc => by
  obtain ⟨m, rs, rfl, pg, htab, hR⟩ := hc
  have hm := pg.ok
  have ⟨hn, hasc, hok⟩ := htab
  refine sws_newD fun q hq => ?_
  refine sws_cons (sw_forT (D := rowD) (ts := rs) (iw_tup (ev_var rfl))
    (fun r δ' S2 => ∃ (l : List Row) (u v : Option SV), rs = l ++ r ∧ δ' = [some (.d m.D), some (.d (tabD rs)), some (.r q), u, v, none, none, none, none, none] ∧ S2 = supd S q (.dct (kvT fdS l)))
    ⟨[], none, none, rfl, rfl, rfl⟩ (fun _ _ _ _ => trivial) ?_ ?_)
  · rintro ⟨t, fs⟩ r δ' S2 ⟨l, u, v, e1, rfl, rfl⟩
    refine gw_tup (gws_cons (gws_cons (gws_nil ?_)))
    refine sws_dputV (kk := ki t) (by tm_at "ev") (by tm_at "ev") (by tm_at "ev") supd_same ?_ (sws_nil ⟨l ++ [(t, fs)], _, _, by rw [e1]; simp, rfl, ?_⟩)
    · unfold kvT
      rw [List.length_map]
      have : l.length < rs.length := by rw [e1, List.length_append, List.length_cons]; omega
      unfold sizeLine
      omega
    · rw [supd_supd]
      refine (congrArg (fun z => supd S q (.dct z)) (put_kv (D := fdS))).trans ?_
      rw [putT_new (not_has hasc e1)]
  rintro δ' S2 ⟨l, u, v, e1, rfl, rfl⟩
  rw [List.append_nil] at e1
  subst e1
  have hle : SLe S (supd S q (.dct (kvT fdS rs))) := (SLe.refl S).new hq
  have hq2 : (supd S q (.dct (kvT fdS rs))) q = some (.dct (kvT fdS rs)) := supd_same
  have vk := fun t => val_kv (D := fdS) (m := rs) (k := t)
  unfold closedF at hR
  refine sws_cons (SW.mono (E := { nx := fun δ' S' => entF m rs = true ∧ δ' = [some (.d m.D), some (.d (tabD rs)), some (.r q), u, v, none, none, none, none, none] ∧ S' = supd S q (.dct (kvT fdS rs)), rt := R, bk := fun _ _ => False, ct := fun _ _ => False }) ?st ?nx (fun _ _ h => h) (fun _ _ h => h.elim) fun _ _ h => h.elim)
  case st =>
    unfold entF at hR ⊢
    refine' sw_if (x := placeB m m.entry) ?a1 (fun h => ?b1) fun h => ?c1
    case a1 => exact tv_val (ev_call (av_cons (by tm_at "ev") (av_cons (by tm_at "ev") av_nil)) ⟨m, m.entry, rfl, hm, rfl, rfl⟩)
    case c1 =>
      rw [if_neg (by rw [h]; decide)]
      exact sws_nil ⟨rfl, rfl, rfl⟩
    rw [if_pos h] at hR ⊢
    have vkt := vk m.entry
    cases hv : valT rs m.entry with
    | none =>
      rw [hv] at vkt hR
      refine sws_ifT (x := true || false) (tv_w (wv_or (TV.is (tv_cmp (cv_dnotin (kk := ki m.entry) (by tm_at "ev") (by tm_at "ev") hq2)) (by rw [vkt]; rfl)) fun h => by cases h)) rfl ?_
      exact sws_sub hle (by tm_at "ret")
    | some g =>
      rw [hv] at vkt hR
      dsimp only at hR ⊢
      have hg := (hok _ (valT_mem hv)).2
      refine' sws_if2 (x := false || !g.all fun f => f.has 0) ?a2 (fun h => ?b2) fun h => ?c2
      case a2 => exact tv_w (wv_or (TV.is (tv_cmp (cv_dnotin (kk := ki m.entry) (by tm_at "ev") (by tm_at "ev") hq2)) (by rw [vkt]; rfl)) fun _ => wv_or1 (TV.is (tv_cmp (cv_ne (ev_lcF (D := Fact.D) (ts := g) (P := fun f => !f.has 0) (F := Fact.D) [("_law_fact", 8)] [false, false, false, false, false, false, false, false, true, false] [false, false, false, false, false, false, false, false, true, false] ["allows"] (by decide +kernel) (by decide +kernel) (by decide) (iw_tup (ev_dget (kk := ki m.entry) (by tm_at "ev") (by tm_at "ev") hq2 vkt)) (by rw [hg.1]; decide) (fun X1 _ t ht => tv_not (tv_val (by tm_at "ev"))) fun X1 _ t ht _ => by tm_at "ev") (ev_lst av_nil rfl rfl) (lay_shp (lay_lst (n := 2) fun d hd => by obtain ⟨f, _, rfl⟩ := List.mem_map.mp hd; exact factD_lay f) (by decide)) (lay_shp (lay_lst (n := 0) fun d hd => absurd hd List.not_mem_nil) (by decide)))) (by rw [nil_eqv, filt_empty])))
      case b2 =>
        have h : (g.all fun f => f.has 0) = false := by
          rw [Bool.false_or] at h
          cases hx : g.all fun f => f.has 0 with
          | false => rfl
          | true => rw [hx] at h; cases h
        rw [h] at hR
        exact sws_sub hle (by tm_at "ret")
      have h : (g.all fun f => f.has 0) = true := by
        rw [Bool.false_or] at h
        cases hx : g.all fun f => f.has 0 with
        | true => rfl
        | false => rw [hx] at h; cases h
      exact sws_nil ⟨h, rfl, rfl⟩
  rintro δ' S' ⟨he, rfl, rfl⟩
  rw [he, Bool.true_and] at hR
  have hwe := whole_eqv pg htab
  have htl := lay_shp (tab_tame htab).1 (by decide)
  have hpl := lay_shp (tab_tame (plain_good pg).ok).1 (by decide)
  generalize hwh : wholeF m rs = wh at *
  refine sws_cons (sw_forT (D := rowD) (ts := rs) (iw_tup (ev_var rfl))
    (fun r δ' S2 => ∃ (l : List Row) (u v x y z : Option SV), rs = l ++ r ∧ l.all (rowCl m rs wh) = true ∧ δ' = [some (.d m.D), some (.d (tabD rs)), some (.r q), u, v, x, y, z, none, none] ∧ S2 = supd S q (.dct (kvT fdS rs)))
    ⟨[], u, v, none, none, none, rfl, rfl, rfl, rfl⟩ (fun _ _ _ _ => trivial) ?_ ?_)
  · rintro ⟨t, fs⟩ r δ' S2 ⟨l, u, v, x, y, z, e1, e2, rfl, rfl⟩
    have hp := hok (t, fs) (by rw [e1]; simp)
    have fin : rowCl m rs wh (t, fs) = false → R (.d (.bool false)) S := fun h => by
      have e : rs.all (rowCl m rs wh) = false := List.all_eq_false.mpr ⟨(t, fs), by rw [e1]; simp, by rw [h]; decide⟩
      rw [e] at hR
      exact hR
    have nxt : rowCl m rs wh (t, fs) = true → (l ++ [(t, fs)]).all (rowCl m rs wh) = true := fun h => by rw [List.all_append, e2, List.all_cons, h]; rfl
    have e3 : rs = (l ++ [(t, fs)]) ++ r := by rw [e1]; simp
    refine gw_tup (gws_cons (gws_cons (gws_nil ?_)))
    refine sws_setV (ev_call (by tm_at "av") ⟨m, t, fs, rfl, hm, place_find hp.1, hp.2, rfl, rfl⟩) ?_
    refine sws_cons (SW.mono (E := { nx := fun δ' S' => ∃ ws : List Row, rowCl m rs wh (t, fs) = ws.all (rowC m rs) ∧ (∀ w ∈ ws, okT w.2) ∧ δ' = [some (.d m.D), some (.d (tabD rs)), some (.r q), some (.d (.int t)), some (.d (FD fs)), some (.d (rowsD ws)), y, z, none, none] ∧ S' = supd S q (.dct (kvT fdS rs)), rt := R, bk := fun _ _ => False, ct := fun _ _ => False }) ?st2 ?nx2 (fun _ _ h => h) (fun _ _ h => h.elim) fun _ _ h => h.elim)
    case st2 =>
      cases hw : waysF m t fs with
      | none =>
        have e4 : rowCl m rs wh (t, fs) = wh := by unfold rowCl; dsimp only; rw [hw]
        rw [e4] at fin
        refine sw_if (x := true) (tv_cmp (cv_isN (x := PyData.none) (ev_var rfl))) (fun _ => ?_) fun h => by cases h
        refine' sws_if2 (x := !wh) ?a3 (fun h => ?b3) fun h => ?c3
        case a3 => exact TV.is (tv_cmp (cv_ne (by tm_at "ev") (ev_call (by tm_at "av") ⟨m, rfl, hm, rfl, rfl⟩) htl hpl)) (by rw [hwe])
        case b3 =>
          have hR := fin (by simpa using h)
          exact sws_sub hle (by tm_at "ret")
        exact sws_setV (v := .d (rowsD [])) (ev_lst (ds := []) av_nil rfl rfl) (sws_nil ⟨[], by rw [e4]; simpa using h, fun _ h => absurd h List.not_mem_nil, rfl, rfl⟩)
      | some ws =>
        refine sw_if (x := false) (tv_cmp (cv_isN (x := rowsD ws) (ev_var rfl))) (fun h => by cases h) fun _ => sws_nil ⟨ws, by unfold rowCl; dsimp only; rw [hw], waysF_ok hm hp.2 hw, rfl, rfl⟩
    rintro δ' S' ⟨ws, e4, hws, rfl, rfl⟩
    rw [e4] at fin nxt
    refine sws_one (sw_forT (D := rowD) (ts := ws) (iw_list (ev_var rfl))
      (fun r2 δ' S2 => ∃ (l2 : List Row) (y z : Option SV), ws = l2 ++ r2 ∧ l2.all (rowC m rs) = true ∧ δ' = [some (.d m.D), some (.d (tabD rs)), some (.r q), some (.d (.int t)), some (.d (FD fs)), some (.d (rowsD ws)), y, z, none, none] ∧ S2 = supd S q (.dct (kvT fdS rs)))
      ⟨[], y, z, rfl, rfl, rfl, rfl⟩ (fun _ _ _ _ => trivial) ?_ ?_)
    · rintro ⟨tg, told⟩ r2 δ' S2 ⟨l2, y, z, f1, f2, rfl, rfl⟩
      have htold := hws (tg, told) (by rw [f1]; simp)
      have fin2 : rowC m rs (tg, told) = false → R (.d (.bool false)) S := fun h => fin (by rw [f1, List.all_append, List.all_cons, h, Bool.false_and, Bool.and_false])
      have nxt2 : rowC m rs (tg, told) = true → (l2 ++ [(tg, told)]).all (rowC m rs) = true := fun h => by rw [List.all_append, f2, List.all_cons, h]; rfl
      have f3 : ws = (l2 ++ [(tg, told)]) ++ r2 := by rw [f1]; simp
      unfold rowC at fin2 nxt2
      dsimp only at fin2 nxt2
      refine gw_tup (gws_cons (gws_cons (gws_nil ?_)))
      refine' sws_cons (sw_if (x := placeB m tg) ?a5 (fun h => ?b5) fun h => ?c5)
      case a5 => exact tv_val (ev_call (by tm_at "av") ⟨m, tg, rfl, hm, rfl, rfl⟩)
      case c5 =>
        rw [if_neg (by rw [h]; decide)] at nxt2
        exact sws_nil (sws_nil ⟨_, _, _, f3, nxt2 rfl, rfl, rfl⟩)
      rw [if_pos h] at fin2 nxt2
      have vkt := vk tg
      cases hv : valT rs tg with
      | none =>
        rw [hv] at vkt fin2
        have hR := fin2 rfl
        refine sws_ifT (x := true) (TV.is (tv_cmp (cv_dnotin (kk := ki tg) (by tm_at "ev") (by tm_at "ev") supd_same)) (by rw [vkt]; rfl)) rfl ?_
        exact sws_sub hle (by tm_at "ret")
      | some g =>
        rw [hv] at vkt fin2 nxt2
        dsimp only at fin2 nxt2
        have hg := (hok _ (valT_mem hv)).2
        refine sws_ifN (x := false) (TV.is (tv_cmp (cv_dnotin (kk := ki tg) (by tm_at "ev") (by tm_at "ev") supd_same)) (by rw [vkt]; rfl)) rfl ?_
        refine' sws_if2 (x := !fwB told g) ?a6 (fun h => ?b6) fun h => ?c6
        case a6 =>
          refine TV.is (tv_cmp (cv_ne (ev_lcF (D := fun i : Nat => .int (0 + (i : Int))) (ts := List.range 16) (P := fun i : Nat => !win (factAt told (i : Int)) (factAt g (i : Int))) (F := fun i : Nat => .int (0 + (i : Int))) [("_law_r", 9)] [false, false, true, false, false, false, true, true, false, true] [false, false, false, false, false, false, false, false, false, true] ["within"] (by decide +kernel) (by decide +kernel) (by decide) (iw_range1 (n := 16) ev_int (by decide) (by decide)) (by rw [List.length_range]; decide) (fun X1 _ i hi => ?_) fun X1 _ t ht _ => by tm_at "ev") (ev_lst av_nil rfl rfl) (lay_shp (lay_lst (n := 0) fun d hd => by obtain ⟨f, _, rfl⟩ := List.mem_map.mp hd; exact lay_int) (by decide)) (lay_shp (lay_lst (n := 0) fun d hd => absurd hd List.not_mem_nil) (by decide)))) (by rw [nil_eqv, filt_empty, fw_range htold.1 hg.1])
          have hi := List.mem_range.mp hi
          exact tv_not (tv_val (ev_call (av_cons (ev_ixT (ds := told.map Fact.D) (ev_var rfl) (ev_var rfl) (at_fact (by rw [htold.1]; exact hi))) (av_cons (ev_ixT (ds := g.map Fact.D) (ev_dget (kk := ki tg) (v := fdS g) (by tm_at "ev") (by tm_at "ev") supd_same vkt) (ev_var rfl) (at_fact (by rw [hg.1]; exact hi))) av_nil)) ⟨_, _, rfl, factAt_ok htold _, (factAt_ok hg _).1, rfl, rfl⟩))
        case b6 =>
          have hR := fin2 (by simpa using h)
          exact sws_sub hle (by tm_at "ret")
        exact sws_nil (sws_nil ⟨_, _, _, f3, nxt2 (by simpa using h), rfl, rfl⟩)
    · rintro δ' S2 ⟨l2, y, z, f1, f2, rfl, rfl⟩
      rw [List.append_nil] at f1
      exact ⟨_, _, _, _, _, _, e3, nxt (by rw [f1]; exact f2), rfl, rfl⟩
  · rintro δ' S2 ⟨l, u, v, x, y, z, e1, e2, rfl, rfl⟩
    rw [List.append_nil] at e1
    subst e1
    rw [e2] at hR
    exact sws_sub hle (by tm_at "ret")
end
end K23
/-! the law's own defs, 9: other facts, forgotten *-/
namespace K23
open PySem PySem.Spec PyProof.Rows L2
theorem zH_set' {fs : Facts} {n : Nat} {f : Fact} (h : zH fs) (hn : 1 ≤ n) : zH (fs.set n f) := by
  unfold zH at *
  rw [List.getElem?_set_ne (by omega)]; exact h
theorem okT_set {fs : Facts} {n : Nat} {f : Fact} (h : okT fs) (hf : f.ok) : okT (fs.set n f) := by
  refine ⟨by rw [List.length_set]; exact h.1, fun g hg => ?_⟩
  rcases List.mem_or_eq_of_mem_set hg with e | e
  · exact h.2 g e
  · rw [e]; exact hf
theorem asc_two {ws : List Int} (h : ws.Pairwise (· < ·)) (hl : 1 < ws.length) : ws.head?.getD 0 < ws.getLast?.getD 0 := by
  match ws, hl with
  | a :: b :: r, _ =>
    obtain ⟨h1, h2⟩ := List.pairwise_cons.mp h
    rw [List.getLast?_cons_cons]
    exact Int.lt_of_lt_of_le (h1 b List.mem_cons_self) (asc_ends h2 b List.mem_cons_self).2
theorem words_range {ws : List Int} (h : (Fact.words ws).ok) (hl : 1 < ws.length) : (Fact.range (ws.head?.getD 0) (ws.getLast?.getD 0)).ok :=
  ⟨⟨(h.1.2.1 _ (head_mem h.2)).1, asc_two h.1.1 hl, (h.1.2.1 _ (last_mem h.2)).2⟩, trivial⟩
theorem at_sv {α : Type} {D : α → PyData} {xs : List α} {i : Nat} {x : α} (h : xs[i]? = some x) : atI ((xs.map D).map SV.d) (i : Int) = some (.d (D x)) := atI_nat (by rw [List.getElem?_map, List.getElem?_map, h]; rfl)
theorem words_ends {ws : List Int} (h : ws ≠ []) : atI (ws.map PyData.int) 0 = some (.int (ws.head?.getD 0)) ∧ atI (ws.map PyData.int) (-1) = some (.int (ws.getLast?.getD 0)) := by
  constructor
  · cases ws with
    | nil => exact absurd rfl h
    | cons a r => exact atI_head
  · rw [atI_getLast (xs := ws.map PyData.int) (by simpa using h), List.getLast?_eq_some_getLast h, Option.getD_some, List.getLast_map]
section
variable {X : Cx} {a b e : Expr} {δ : Dl} {S : Sto} {pos : Pos}
/-- what was made on the way is forgotten -/
theorem ev_forget {d : PyData} (h : EW X e δ S fun v S1 => v = .d d ∧ SLe S S1) : EV X e δ S (.d d) := .mk fun O σ H F Q M s q =>
  h O σ H F _ M s fun v S1 u H1 F1 e1 M1 r1 z => q v S u H1 F1 e1 (M1.sub z.2) r1 ⟨z.1, rfl⟩
end
section
variable {Z : Zx} [W : W0 Z]
abbrev cOther : Ct := fun xs S R => ∃ q : Addr, xs = [.r q] ∧ Dr S q ∧ ∀ (f : Fact) S', f.ok → Kp [q] S S' → Dr S' q → R (.d f.D) S'
instance ok__law_other_fact : HasFn Z "_law_other_fact" ["_law_draw_here"] 2 cOther := fn_intro sc__law_other_fact nm__law_other_fact (fun _ _ _ _ _ _ us hl => match us, hl with | [_], _ => rfl) (by tm_at "ctl") fun X B xs S R hc => by
  obtain ⟨q, rfl, hD, hR⟩ := hc
  refine sws_cons <| sw_set <| ew_takeQ (ev_var rfl) hD ev_int (by decide) (by decide) fun k S1 k0 k1 hk1 hD1 => ?_
  refine sws_cons <| sw_set <| ew_takeQ (ev_var rfl) hD1 ev_int (by decide) (by decide) fun a S2 a0 a1 hk2 hD2 => ?_
  have hk : k.toNat < ([.top, .words [a], .words [0, a + 1], .range 0 (4 + a), .range 5 4294967295, .top] : List Fact).length := by show k.toNat < 6; omega
  have hat : atI (([.top, .words [a], .words [0, a + 1], .range 0 (4 + a), .range 5 4294967295, .top] : List Fact).map Fact.D) k = some (([.top, .words [a], .words [0, a + 1], .range 0 (4 + a), .range 5 4294967295, .top] : List Fact)[k.toNat]).D := atIp k0 (by rw [List.getElem?_map, List.getElem?_eq_getElem hk]; rfl)
  have hok : ∀ f ∈ ([.top, .words [a], .words [0, a + 1], .range 0 (4 + a), .range 5 4294967295, .top] : List Fact), f.ok := fun f hf => by
    simp only [List.mem_cons, List.not_mem_nil, or_false] at hf
    rcases hf with e | e | e | e | e | e <;> subst e
    · exact top_ok
    · exact one_ok ⟨a0, by unfold TOPn; omega⟩
    · refine ⟨⟨List.pairwise_cons.mpr ⟨fun x hx => by rw [List.mem_singleton.mp hx]; omega, List.pairwise_singleton _ _⟩, fun w hw => ?_, by show 2 ≤ 16; decide⟩, List.cons_ne_nil _ _⟩
      rcases List.mem_cons.mp hw with e | e
      · rw [e]; exact ⟨by decide, by decide⟩
      · rw [List.mem_singleton.mp e]; exact ⟨by omega, by unfold TOPn; omega⟩
    · exact ⟨⟨Int.le_refl _, by omega, by unfold TOPn; omega⟩, trivial⟩
    · exact ⟨⟨by decide, by decide, by decide⟩, trivial⟩
    · exact top_ok
  exact sws_one (sw_ret (EV.use (ev_ixL (ds := ([.top, .words [a], .words [0, a + 1], .range 0 (4 + a), .range 5 4294967295, .top] : List Fact).map Fact.D) (ev_lst (by tm_at "av") rfl rfl) (ev_var rfl) hat) (hR _ _ (hok _ (List.getElem_mem hk)) (hk1.trans hk2) hD2)))
abbrev cForg : Ct := fun xs S R => ∃ (q : Addr) (m : Img) (rs : List Row) (b : Bool), xs = [.r q, .d (tabD rs), .d (.bool b)] ∧ Dr S q ∧ GoodT m rs ∧ ∀ rs' S', GoodT m rs' → Kp [q] S S' → Dr S' q → R (.d (tabD rs')) S'
instance ok__law_forgotten : HasFn Z "_law_forgotten" ["_law_draw_here", "_law_table", "_law_whole"] 2 cForg := fn_intro sc__law_forgotten nm__law_forgotten (fun _ _ _ _ _ _ us hl => match us, hl with | [_, _, _], _ => rfl) (by tm_at "ctl") fun X B xs S R hc => by
  obtain ⟨q, m, rs, wb, rfl, hD, hG, hR⟩ := hc
  refine sws_cons (sw_setLc (by rw [B.sc]; decide +kernel) (lc_if [("_law_r", 3)] [true, false, false, true, false, false, false, false, false] [false, false, false, true, false, false, false, false, false] ["_law_take"] (by decide +kernel) (by decide +kernel) (by decide) (iw_range2 (m := 1) (n := 16) ev_int ev_int (by decide)) (by unfold intsFrom; rw [List.length_map, List.length_range]; decide)
    (fun r acc S' => ∃ gs : List Int, acc = (gs.map PyData.int).map SV.d ∧ (∀ g ∈ gs, 1 ≤ g ∧ g ≤ 15) ∧ (∀ x ∈ r, ∃ i : Int, x = .int i ∧ 1 ≤ i ∧ i ≤ 15) ∧ Kp [q] S S' ∧ Dr S' q)
    ⟨[], rfl, fun _ h => absurd h List.not_mem_nil, fun x hx => ?_, Kp.refl _ _, hD⟩ (fun _ _ _ _ => trivial) ?_ ?_) (swaps_true B.sc (by decide +kernel)))
  · unfold intsFrom at hx
    obtain ⟨i, hi, rfl⟩ := List.mem_map.mp hx
    have : i < 15 := List.mem_range.mp hi
    exact ⟨_, rfl, by omega, by omega⟩
  · rintro X1 _ d r acc S1 ⟨gs, rfl, hgs, hr, hk1, hD1⟩
    obtain ⟨i, rfl, hi⟩ := hr d List.mem_cons_self
    have hr' : ∀ x ∈ r, ∃ i : Int, x = .int i ∧ 1 ≤ i ∧ i ≤ 15 := fun x hx => hr x (List.mem_cons_of_mem _ hx)
    refine tw_eqI (ew_takeQ (ev_var rfl) hD1 ev_int (by decide) (by decide) fun k S2 k0 k1 hk2 hD2 => ⟨k, rfl, ifB (fun h => ?_) fun h => ⟨gs, rfl, hgs, hr', hk1.trans hk2, hD2⟩⟩)
    intro X2 _
    refine EV.use (ev_var rfl) ⟨gs ++ [i], by simp, fun g hg => ?_, hr', hk1.trans hk2, hD2⟩
    rcases List.mem_append.mp hg with e | e
    · exact hgs g e
    · rw [List.mem_singleton.mp e]; exact hi
  rintro acc S1 ⟨gs, rfl, hgs, _, hk1, hD1⟩ p hp
  refine sws_frz (i := 4) (q := p) (S' := S1) (ds := gs.map PyData.int) rfl supd_same ((SLe.refl S1).new hp) hp ?_
  refine sws_newL (xs := []) av_nil (by decide) fun z hz => ?_
  refine sws_cons (sw_forT (D := rowD) (ts := rs) (iw_tup (ev_var rfl))
    (fun r δ' S2 => ∃ (l l' : List Row) (u v x y : Option SV), rs = l ++ r ∧ l'.map (·.1) = l.map (·.1) ∧ (∀ p ∈ l', okT p.2 ∧ zH p.2) ∧ δ' = [some (.r q), some (.d (tabD rs)), some (.d (.bool wb)), u, some (.d (.list (gs.map PyData.int))), some (.r z), v, x, y] ∧ S2 = supd S1 z (.lst ((l'.map rowD).map SV.d)))
    ⟨[], [], none, none, none, none, rfl, rfl, fun _ h => absurd h List.not_mem_nil, rfl, rfl⟩ (fun _ _ _ _ => trivial) ?_ ?_)
  · rintro ⟨t, fs⟩ r δ' S2 ⟨l, l', u, v, x, y, e1, e2, hl', rfl, rfl⟩
    have hp := (hG.ok.2.2 (t, fs) (by rw [e1]; simp)).2
    have hpz := hG.z (t, fs) (by rw [e1]; simp)
    have hlen : l'.length < rs.length := by
      have h := congrArg List.length e2
      rw [List.length_map, List.length_map] at h
      rw [h, e1, List.length_append, List.length_cons]; omega
    have hrs := hG.ok.1
    refine gw_tup (gws_cons (gws_cons (gws_nil ?_)))
    refine sws_cons <| sw_set <| ew_listTO (ds := fs.map Fact.D) (ev_var rfl) fun n hn => ?_
    have zn : z ≠ n := sup_ne hn
    have hn1 := sup_pn hn
    refine sws_cons (sw_forT (D := PyData.int) (ts := gs) (iw_list (ev_var rfl))
      (fun r2 δ' S3 => ∃ (nf : Facts) (u : Option SV), okT nf ∧ zH nf ∧ (∀ g ∈ r2, 1 ≤ g ∧ g ≤ 15) ∧ δ' = [some (.r q), some (.d (tabD rs)), some (.d (.bool wb)), u, some (.d (.list (gs.map PyData.int))), some (.r z), some (.d (.int t)), some (.d (FD fs)), some (.r n)] ∧ S3 = supd (supd S1 z (.lst ((l'.map rowD).map SV.d))) n (.lst ((nf.map Fact.D).map SV.d)))
      ⟨fs, u, hp, hpz, hgs, rfl, rfl⟩ (fun _ _ _ _ => trivial) ?_ ?_)
    · rintro g r2 δ' S3 ⟨nf, u, hnf, hnz, hb, rfl, rfl⟩
      have hg := hb g List.mem_cons_self
      have hb' : ∀ x ∈ r2, 1 ≤ x ∧ x ≤ 15 := fun x hx => hb x (List.mem_cons_of_mem _ hx)
      have hgl : g.toNat < nf.length := by rw [hnf.1]; omega
      have hat : atI ((nf.map Fact.D).map SV.d) g = some (.d (nf[g.toNat]).D) := by
        have z1 := at_sv (D := Fact.D) (List.getElem?_eq_getElem hgl)
        rw [Int.toNat_of_nonneg (by omega)] at z1
        exact z1
      have hix : ixN ((nf.map Fact.D).map SV.d).length g = some g.toNat := by
        have z2 := ixN_nat' hgl
        rw [Int.toNat_of_nonneg (by omega)] at z2
        rw [List.length_map, List.length_map]; exact z2
      have hfo := hnf.2 _ (List.getElem_mem hgl)
      have fin : ∀ f : Fact, f.ok → ∃ (nf' : Facts) (u : Option SV), okT nf' ∧ zH nf' ∧ (∀ g ∈ r2, 1 ≤ g ∧ g ≤ 15) ∧ [some (.r q), some (.d (tabD rs)), some (.d (.bool wb)), some (.d (.int g)), some (.d (.list (gs.map PyData.int))), some (.r z), some (.d (.int t)), some (.d (FD fs)), some (.r n)] = [some (.r q), some (.d (tabD rs)), some (.d (.bool wb)), u, some (.d (.list (gs.map PyData.int))), some (.r z), some (.d (.int t)), some (.d (FD fs)), some (.r n)] ∧
          supd (supd (supd S1 z (.lst ((l'.map rowD).map SV.d))) n (.lst ((nf.map Fact.D).map SV.d))) n (.lst (((nf.map Fact.D).map SV.d).set g.toNat (.d f.D))) = supd (supd S1 z (.lst ((l'.map rowD).map SV.d))) n (.lst ((nf'.map Fact.D).map SV.d)) := fun f hf =>
        ⟨nf.set g.toNat f, _, okT_set hnf hf, zH_set' hnz (by omega), hb', rfl, by rw [supd_supd, List.map_set, List.map_set]⟩
      refine ew_tg (sws_one (sw_if (x := wb) (tv_val (ev_var rfl)) (fun h => ?_) fun h => ?_))
      · exact sws_setO ev_non (ev_var rfl) (ev_var rfl) supd_same hix (sws_nil (fin .top top_ok))
      · have stay : ∃ (nf' : Facts) (u : Option SV), okT nf' ∧ zH nf' ∧ (∀ g ∈ r2, 1 ≤ g ∧ g ≤ 15) ∧ [some (.r q), some (.d (tabD rs)), some (.d (.bool wb)), some (.d (.int g)), some (.d (.list (gs.map PyData.int))), some (.r z), some (.d (.int t)), some (.d (FD fs)), some (.r n)] = [some (.r q), some (.d (tabD rs)), some (.d (.bool wb)), u, some (.d (.list (gs.map PyData.int))), some (.r z), some (.d (.int t)), some (.d (FD fs)), some (.r n)] ∧
          supd (supd S1 z (.lst ((l'.map rowD).map SV.d))) n (.lst ((nf.map Fact.D).map SV.d)) = supd (supd S1 z (.lst ((l'.map rowD).map SV.d))) n (.lst ((nf'.map Fact.D).map SV.d)) := ⟨nf, _, hnf, hnz, hb', rfl, rfl⟩
        generalize nf[g.toNat] = f at *
        cases f with
        | top => exact sws_one (sw_if (x := false && false) (tv_w (wv_and (tv_cmp (cv_notN (x := .none) (ev_ixO (ev_var rfl) (ev_var rfl) supd_same hat))) fun h => by cases h)) (fun h => by cases h) fun h => sws_nil stay)
        | range lo hi => exact sws_one (sw_if (x := true && (false && false)) (tv_w (wv_and (tv_cmp (cv_notN (x := (Fact.range lo hi).D) (ev_ixO (ev_var rfl) (ev_var rfl) supd_same hat))) fun _ => wv_and (TV.is (tv_cmp (cv_eqS (ev_ixT (ds := [.str "range", .int lo, .int hi]) (ev_ixO (ev_var rfl) (ev_var rfl) supd_same hat) ev_int rfl) ev_str)) (by decide +kernel)) fun h => by cases h)) (fun h => by cases h) fun h => sws_nil stay)
        | words ws =>
          have hf0 : atI ([.str "words", .tuple (ws.map PyData.int)] : List PyData) 1 = some (.tuple (ws.map PyData.int)) := rfl
          refine sws_one (sw_if (x := true && (true && decide (1 < ws.length))) (tv_w (wv_and (tv_cmp (cv_notN (x := (Fact.words ws).D) (ev_ixO (ev_var rfl) (ev_var rfl) supd_same hat))) fun _ => wv_and (TV.is (tv_cmp (cv_eqS (ev_ixT (ds := [.str "words", .tuple (ws.map PyData.int)]) (ev_ixO (ev_var rfl) (ev_var rfl) supd_same hat) ev_int rfl) ev_str)) (by decide +kernel)) fun _ => wv_and1 (TV.is (tv_cmp (cv_gt (ev_lenT (ds := ws.map PyData.int) (ev_ixT (ds := [.str "words", .tuple (ws.map PyData.int)]) (ev_ixO (ev_var rfl) (ev_var rfl) supd_same hat) ev_int hf0)) ev_int)) (by rw [List.length_map]; exact decide_eq_decide.mpr (by omega))))) (fun h => ?_) fun h => sws_nil stay)
          have h : 1 < ws.length := by simpa using h
          have ⟨w0, w1⟩ := words_ends hfo.2
          exact sws_setO (ev_tup (ds := [.str "range", .int (ws.head?.getD 0), .int (ws.getLast?.getD 0)]) (av_cons ev_str (av_cons (ev_ixT (ev_ixT (ds := [.str "words", .tuple (ws.map PyData.int)]) (ev_ixO (ev_var rfl) (ev_var rfl) supd_same hat) ev_int hf0) ev_int w0) (av_cons (ev_ixT (ev_ixT (ds := [.str "words", .tuple (ws.map PyData.int)]) (ev_ixO (ev_var rfl) (ev_var rfl) supd_same hat) ev_int hf0) (ev_neg ev_int) w1) av_nil))) rfl rfl) (ev_var rfl) (ev_var rfl) supd_same hix (sws_nil (fin _ (words_range hfo h)))
    · rintro δ' S3 ⟨nf, u, hnf, hnz, _, rfl, rfl⟩
      refine sws_app (v := .d (rowD (t, nf))) (ev_var rfl) (by rw [supd_ne zn]; exact supd_same) (ev_tup (ds := [.int t, FD nf]) (av_cons (ev_var rfl) (av_cons (ew_tupleO ((ev_var rfl).use ⟨n, nf.map Fact.D, rfl, supd_same, rfl, rfl⟩)) av_nil)) rfl rfl) (by rw [List.length_map, List.length_map]; unfold sizeLine; omega) ?_
      rw [supd_comm (Ne.symm zn), supd_supd]
      refine sws_sub ((SLe.refl _).new (by rw [supd_ne (Ne.symm zn)]; exact hn1)) (sws_nil ⟨l ++ [(t, fs)], l' ++ [(t, nf)], _, _, _, _, by rw [e1]; simp, by simp [e2], fun p hp => ?_, rfl, by simp⟩)
      rcases List.mem_append.mp hp with e | e
      · exact hl' p e
      · rw [List.mem_singleton.mp e]; exact ⟨hnf, hnz⟩
  · rintro δ' S2 ⟨l, l', u, v, x, y, e1, e2, hl', rfl, rfl⟩
    rw [List.append_nil] at e1
    subst e1
    have hG' : GoodT m l' := by
      have hlen : l'.length = rs.length := by
        have h := congrArg List.length e2
        rw [List.length_map, List.length_map] at h
        exact h
      refine ⟨⟨by rw [hlen]; exact hG.ok.1, by rw [e2]; exact hG.ok.2.1, fun p hp => ⟨?_, (hl' p hp).1⟩⟩, fun p hp => (hl' p hp).2⟩
      have hm : p.1 ∈ rs.map (·.1) := by rw [← e2]; exact List.mem_map.mpr ⟨p, hp, rfl⟩
      obtain ⟨p', hp', e⟩ := List.mem_map.mp hm
      rw [← e]
      exact (hG.ok.2.2 p' hp').1
    have zq : z ≠ q := fun e => hD1.some (by rw [← e]; exact hz)
    exact sws_one (sw_ret (ew_tupleO ((ev_var rfl).use ⟨z, l'.map rowD, rfl, supd_same, hR l' _ hG' (hk1.new hz) (hD1.ne zq)⟩)))
end
end K23
/-! plain law 6: bent tables *-/
namespace K23
open PySem PySem.Spec PyProof.Rows L2
theorem tab_len {m : Img} (pg : PG m) {rs : List Row} (h : tabOk m rs) : rs.length ≤ 1000 := by
  have nd : (rs.map (·.1)).Nodup := List.Pairwise.imp (fun h => by omega) h.2.1
  have k := nodup_len _ (placesF m) nd fun x hx => by
    obtain ⟨p, hp, rfl⟩ := List.mem_map.mp hx
    exact (pg.iff _).mp (h.2.2 p hp).1
  rw [List.length_map] at k
  have := pg.len
  omega
theorem asc_of {ns : List Int} (h : ascB ns = true) : ns.Pairwise (· < ·) := by
  have adj : ∀ i (h2 : i + 1 < ns.length), ns[i] < ns[i + 1] := fun i h2 => by
    have z := List.all_eq_true.mp h i (List.mem_range.mpr (by omega))
    rw [List.getElem?_eq_getElem (show i < ns.length by omega), List.getElem?_eq_getElem h2] at z
    exact of_decide_eq_true z
  have up : ∀ d i (h2 : i + 1 + d < ns.length), ns[i] < ns[i + 1 + d] := by
    intro d
    induction d with
    | zero => exact fun i h2 => adj i h2
    | succ d ih => exact fun i h2 => Int.lt_trans (ih i (by omega)) (adj (i + 1 + d) h2)
  refine List.pairwise_iff_getElem.mpr fun i j hi hj hij => ?_
  obtain ⟨d, rfl⟩ : ∃ d, j = i + 1 + d := ⟨j - (i + 1), by omega⟩
  exact up d i hj
theorem tab_bad {m : Img} {rows : List PyData} {d : PyData} (h : d ∈ rows) (hd : rowOkD m d = false) : isTableD m (.tuple rows) = false := by
  show (rows.all (rowOkD m) && ascB (rows.map adrOf)) = false
  have e : rows.all (rowOkD m) = false := List.all_eq_false.mpr ⟨d, h, by rw [hd]; decide⟩
  rw [e]; rfl
abbrev bad1 : List PyData := [.tuple [.str "words", .tuple []], .tuple [.str "words", .tuple [.int 3, .int 2]], .tuple [.str "range", .int 5, .int 5], .tuple [.str "range", .int 9, .int 4], .tuple [.str "words", .tuple [.int 4294967296]], .tuple [.str "words", .tuple [.bool true]]]
abbrev bad2 : List PyData := [.int 0, .tuple [.str "word", .int 3], .tuple [.str "words", .int 3], .tuple [.str "range", .int 0], .tuple [.str "words", .tuple ((List.range 17).map fun (i : Nat) => PyData.int i)]]
def badL : List PyData := bad1 ++ bad2
def tameB (n : Nat) (d : PyData) : Bool := d.canLay0 && (decide (d.depth ≤ n) && szD d)
theorem tame_of {n : Nat} {d : PyData} (h : tameB n d = true) : tame n d := by
  obtain ⟨h1, h2⟩ := Bool.and_eq_true_iff.mp h
  obtain ⟨h2, h3⟩ := Bool.and_eq_true_iff.mp h2
  exact ⟨⟨h1, of_decide_eq_true h2⟩, h3⟩
theorem bad_all : (badL.all fun d => !isFactD d && tameB 2 d) = true := by decide +kernel
theorem bad_no {d : PyData} (h : d ∈ badL) : isFactD d = false ∧ tame 2 d := by
  obtain ⟨h1, h2⟩ := Bool.and_eq_true_iff.mp (List.all_eq_true.mp bad_all d h)
  exact ⟨by simpa using h1, tame_of h2⟩
abbrev rowX (a : Int) (ds : List PyData) : PyData := .tuple [.int a, .tuple ds]
theorem rowX_all {m : Img} {a : Int} {ds : List PyData} {d : PyData} (h : d ∈ ds) (hd : isFactD d = false) : rowOkD m (rowX a ds) = false := by
  show (isWordD (.int a) && (placeB m a && rowFs ds)) = false
  have e : rowFs ds = false := by
    cases ds with
    | nil => rfl
    | cons c r =>
      show (decide _ && (_ && (c :: r).all isFactD)) = false
      have e : (c :: r).all isFactD = false := List.all_eq_false.mpr ⟨d, h, by rw [hd]; decide⟩
      rw [e, Bool.and_false, Bool.and_false]
  rw [e, Bool.and_false, Bool.and_false]
theorem rowX_place {m : Img} {a : Int} {ds : List PyData} (h : placeB m a = false) : rowOkD m (rowX a ds) = false := by
  show (isWordD (.int a) && (placeB m a && rowFs ds)) = false
  rw [h, Bool.false_and, Bool.and_false]
theorem rowX_fs {m : Img} {a : Int} {ds : List PyData} (h : rowFs ds = false) : rowOkD m (rowX a ds) = false := by
  show (isWordD (.int a) && (placeB m a && rowFs ds)) = false
  rw [h, Bool.and_false, Bool.and_false]
theorem rowFs_len {ds : List PyData} (h : ds.length ≠ 16) : rowFs ds = false := by
  cases ds with
  | nil => rfl
  | cons c r =>
    show (decide _ && _) = false
    rw [decide_eq_false h]; rfl
theorem rowFs_none {r : List PyData} : rowFs (.none :: r) = false := by
  have e : PyData.eqv .none w0D = false := by decide +kernel
  show (decide _ && (PyData.eqv .none w0D && _)) = false
  rw [e, Bool.false_and, Bool.and_false]
theorem no_place {m : Img} (pg : PG m) {a : Int} (h : a % 4 ≠ 0) : placeB m a = false := by
  cases e : placeB m a with
  | false => rfl
  | true => exact absurd (pg.bd _ ((pg.iff a).mp e)).2 h
theorem row_tab {m : Img} {rs : List Row} : rowOkD m (tabD rs) = false := by
  match rs with
  | [] => rfl
  | [_] => rfl
  | [_, _] => rfl
  | _ :: _ :: _ :: _ => rfl
theorem GoodT.sub {m : Img} {rs rs' : List Row} (h : GoodT m rs) (s : rs'.Sublist rs) : GoodT m rs' :=
  ⟨⟨Nat.lt_of_le_of_lt s.length_le h.ok.1, List.Pairwise.sublist (s.map _) h.ok.2.1, fun p hp => h.ok.2.2 p (s.subset hp)⟩, fun p hp => h.z p (s.subset hp)⟩
theorem GoodT.set {m : Img} {rs : List Row} (h : GoodT m rs) {i : Nat} {a : Int} {fs gs : Facts} (hi : rs[i]? = some (a, fs)) (hg : okT gs) (hz : zH gs) : GoodT m (rs.set i (a, gs)) := by
  have hl := (List.getElem?_eq_some_iff.mp hi).1
  have e : (rs.set i (a, gs)).map (·.1) = rs.map (·.1) := by
    rw [List.map_set]
    refine List.ext_getElem? fun j => ?_
    by_cases hj : i = j
    · subst hj
      rw [List.getElem?_set_self (by rw [List.length_map]; exact hl), List.getElem?_map, hi]; rfl
    · rw [List.getElem?_set_ne hj]
  have hp : placeB m a = true := (h.ok.2.2 (a, fs) (List.mem_of_getElem? hi)).1
  refine ⟨⟨by rw [List.length_set]; exact h.ok.1, by rw [e]; exact h.ok.2.1, fun p hp' => ?_⟩, fun p hp' => ?_⟩
  · rcases List.mem_or_eq_of_mem_set hp' with z | z
    · exact h.ok.2.2 p z
    · rw [z]; exact ⟨hp, hg⟩
  · rcases List.mem_or_eq_of_mem_set hp' with z | z
    · exact h.z p z
    · rw [z]; exact hz
theorem tame_rows {m : Img} (pg : PG m) {rs : List Row} (h : tabOk m rs) {rows : List PyData} (hr : ∀ d ∈ rows, d ∈ rs.map rowD ∨ tame 10 d) (hl : rows.length ≤ rs.length + 1) : tame 50 (.tuple rows) :=
  (tame_tup (n := 10) (fun d hd => by
    rcases hr d hd with z | z
    · obtain ⟨p, hp, rfl⟩ := List.mem_map.mp z
      exact (tame_row (h.2.2 p hp).2).up (by decide)
    · exact z) (by have := tab_len pg h; omega)).up (by decide)
theorem tame_rowX {a : Int} {fs : Facts} (h : okT fs) {ds : List PyData} (hd : ∀ d ∈ ds, d ∈ fs.map Fact.D ∨ tame 2 d) (hl : ds.length ≤ 20) : tame 10 (rowX a ds) :=
  (tame_pair (tame_tup (n := 2) (fun d hd' => by
    rcases hd d hd' with z | z
    · obtain ⟨f, hf, rfl⟩ := List.mem_map.mp z
      exact tame_fact (h.2 f hf).1
    · exact z) (by omega))).up (by decide)
/-- one row too often, backwards *-/
theorem rev_bad {m : Img} {rs : List Row} {p : Row} (h : p ∈ rs) : isTableD m (.tuple ((rs.map rowD ++ [rowD p]).reverse)) = false := by
  show (((rs.map rowD ++ [rowD p]).reverse).all (rowOkD m) && ascB (((rs.map rowD ++ [rowD p]).reverse).map adrOf)) = false
  have e : ascB (((rs.map rowD ++ [rowD p]).reverse).map adrOf) = false := by
    cases hh : ascB (((rs.map rowD ++ [rowD p]).reverse).map adrOf) with
    | false => rfl
    | true =>
      exfalso
      have k := asc_of hh
      rw [List.reverse_append, List.reverse_singleton, List.singleton_append, List.map_cons] at k
      have k2 := (List.pairwise_cons.mp k).1 p.1 (by
        refine List.mem_map.mpr ⟨rowD p, ?_, rfl⟩
        rw [List.mem_reverse]
        exact List.mem_map.mpr ⟨p, h, rfl⟩)
      have e : adrOf (rowD p) = p.1 := rfl
      rw [e] at k2
      omega
  rw [e, Bool.and_false]
end K23
/-! the law's own defs, 10: rules over own rows *-/
namespace K23
open PySem PySem.Spec PyProof.Rows L2
section
variable {Z : Zx} {X : Cx} {N : List Str} {sc : Scope} {bs ls : List Bool} {gs : List Str} {k : Nat} [B : Bd Z X N sc bs ls gs k]
variable {a b c e r r2 ix ix1 : Expr} {δ : Dl} {S : Sto} {pos p p1 p2 p3 p4 p5 p6 b1 : Pos} {z : Addr} {ds : List PyData} {d : PyData} {i : Int}
include B
/-- an own list == plain data -/
theorem cv_eqO {y : PyData} (ha : EV X a δ S (.r z)) (hq : S z = some (.lst (ds.map SV.d))) (hb : EV X b δ S (.d y)) (hx : shp (.list ds)) (hy : shp y) : CV X .Eq a b δ S (.d (.bool (PyData.eqv (.list ds) y))) :=
  cv_tOp (op_eqD B.hu64) ha hb fun O H F v w Q M rv rw' k => by
    obtain ⟨_, e1, vs, rfl, rl⟩ := M.sto _ _ hq
    cases rv
    exact ⟨.list ds, y, .lst (SqL.of e1) (dpAll_mono M.fr (repL_d rl)), dp_mono M.fr rw', hx, hy, k.dat M (Dp.bl _) ⟨rfl, rfl⟩⟩
omit B in
/-- sums of plain tuples, effects let in -/
theorem ew_catT {R : SV → Sto → Prop} (h : EW X a δ S fun v S1 => EW X b δ S1 fun w S2 => ∃ ds es, v = .d (.tuple ds) ∧ w = .d (.tuple es) ∧ ds.length + es.length ≤ sizeLine ∧ R (.d (.tuple (ds ++ es))) S2) : EW X (.BinOp a .Add b pos) δ S R :=
  ew_tOp (pe_op op_catA pw_e pw_e) (h.mono fun x S1 q => q.mono fun y S2 q O H F v w Q M rv rw' k => by
    obtain ⟨ds, es', rfl, rfl, hz, hR⟩ := q
    cases rv with
    | @tup p xs _ h1 a1 =>
      cases rw' with
      | @tup q ys _ h2 a2 =>
        have l1 := dpAll_len a1
        have l2 := dpAll_len a2
        refine ⟨p, q, xs, ys, rfl, rfl, sqT_mono M.fr h1, sqT_mono M.fr h2, by rw [l1, l2]; exact hz, fun e1 => ?_, fun _ e1 => ?_, fun _ _ p hp => ?_⟩
        · subst e1
          cases ds with
          | nil => exact k.dat M (.tup h2 a2) hR
          | cons _ _ => cases l1
        · subst e1
          cases es' with
          | nil => exact k.dat M (by rw [List.append_nil]; exact .tup h1 a1) hR
          | cons _ _ => cases l2
        · exact k.new M hp (fun F2 e2 h => .tup (SqT.of h) (repL_d (by rw [List.map_append]; exact pair_app (repL_mono e2 (repL_of a1)) (repL_mono e2 (repL_of a2))))) hR)
section
variable [g : GAt gs "tuple"] [f : Free Z "tuple"]
/-- tuple(rows[:i] + rows[i + 1:]) -/
theorem ev_cut2 (hr : ∀ S', EV X r δ S' (.r z)) (hr2 : ∀ S', EV X r2 δ S' (.r z)) (hz : S z = some (.lst (ds.map SV.d))) (hi : ∀ S', EV X ix δ S' (.d (.int i))) (hi1 : ∀ S', EV X ix1 δ S' (.d (.int (i + 1)))) (h0 : 0 ≤ i) (hl : ds.length ≤ 100000) :
    EV X (.Call (.Name "tuple" p) [.BinOp (.Subscript r (.Slice none (some ix) none p1) p2) .Add (.Subscript r2 (.Slice (some ix1) none none p3) p4) p5] [] pos) δ S (.d (.tuple (ds.take i.toNat ++ ds.drop (i.toNat + 1)))) := by
  refine ev_forget (ew_tupleO (ew_catO (ew_slO (hr S) hz ov_none (ov_some (hi S)) fun p1 h1 => ?_)))
  have s1 := (SLe.refl S).new (o := .lst (cutD (ds.map SV.d) none (some i))) h1
  refine ew_slO (hr2 _) (s1 _ _ hz) (ov_some (hi1 _)) ov_none fun p2 h2 => ?_
  have s2 := (SLe.refl (supd S p1 (.lst (cutD (ds.map SV.d) none (some i))))).new (o := .lst (cutD (ds.map SV.d) (some (i + 1)) none)) h2
  refine ⟨p1, p2, _, _, rfl, rfl, s2 _ _ supd_same, supd_same, ?_, fun l hl => ⟨l, ds.take i.toNat ++ ds.drop (i.toNat + 1), rfl, ?_, rfl, ?_⟩⟩
  · rw [cut_to h0, cut_from (by omega), List.length_take, List.length_drop, List.length_map]
    unfold sizeLine; omega
  · rw [supd_same, cut_to h0, cut_from (by omega), show (i + 1).toNat = i.toNat + 1 from by omega]
    simp
  · exact (s1.trans s2).trans ((SLe.refl _).new hl)
/-- tuple(rows[:i] + [e] + rows[i + 1:]) -/
theorem ev_cut3 (hr : ∀ S', EV X r δ S' (.r z)) (hr2 : ∀ S', EV X r2 δ S' (.r z)) (hz : S z = some (.lst (ds.map SV.d))) (hi : ∀ S', EV X ix δ S' (.d (.int i))) (hi1 : ∀ S', EV X ix1 δ S' (.d (.int (i + 1)))) (he : ∀ S', EV X e δ S' (.d d)) (h0 : 0 ≤ i) (hl : ds.length ≤ 100000) (se : St1 X e := by exact rfl) :
    EV X (.Call (.Name "tuple" p) [.BinOp (.BinOp (.Subscript r (.Slice none (some ix) none p1) p2) .Add (.List [e] p6) b1) .Add (.Subscript r2 (.Slice (some ix1) none none p3) p4) p5] [] pos) δ S (.d (.tuple (ds.take i.toNat ++ [d] ++ ds.drop (i.toNat + 1)))) := by
  refine ev_forget (ew_tupleO (ew_catO (ew_catO (ew_slO (hr S) hz ov_none (ov_some (hi S)) fun p1 h1 => ew_lstO (AV.use (av_cons (he _) av_nil se) ⟨sz_ok rfl, fun p2 h2 => ?_⟩)))))
  have s1 := (SLe.refl S).new (o := .lst (cutD (ds.map SV.d) none (some i))) h1
  have s2 := (SLe.refl (supd S p1 (.lst (cutD (ds.map SV.d) none (some i))))).new (o := .lst [.d d]) h2
  refine ⟨p1, p2, _, _, rfl, rfl, s2 _ _ supd_same, supd_same, ?_, fun l hl2 => ?_⟩
  · rw [cut_to h0, List.length_take, List.length_map, List.length_singleton]
    unfold sizeLine; omega
  have s3 := (s1.trans s2).trans ((SLe.refl _).new (o := .lst (cutD (ds.map SV.d) none (some i) ++ [.d d])) hl2)
  have hl3 : (supd (supd (supd S p1 (.lst (cutD (ds.map SV.d) none (some i)))) p2 (.lst [.d d])) l (.lst (cutD (ds.map SV.d) none (some i) ++ [.d d]))) l = some (.lst (cutD (ds.map SV.d) none (some i) ++ [.d d])) := supd_same
  generalize supd (supd (supd S p1 (.lst (cutD (ds.map SV.d) none (some i)))) p2 (.lst [.d d])) l (.lst (cutD (ds.map SV.d) none (some i) ++ [.d d])) = S3 at *
  refine ew_slO (hr2 _) (s3 _ _ hz) (ov_some (hi1 _)) ov_none fun p3 h3 => ?_
  have s4 := (SLe.refl S3).new (o := .lst (cutD (ds.map SV.d) (some (i + 1)) none)) h3
  refine ⟨l, p3, _, _, rfl, rfl, s4 _ _ hl3, supd_same, ?_, fun l2 hl4 => ⟨l2, ds.take i.toNat ++ [d] ++ ds.drop (i.toNat + 1), rfl, ?_, rfl, ?_⟩⟩
  · rw [List.length_append, cut_to h0, cut_from (by omega), List.length_take, List.length_drop, List.length_map, List.length_singleton]
    unfold sizeLine; omega
  · rw [supd_same, cut_to h0, cut_from (by omega), show (i + 1).toNat = i.toNat + 1 from by omega]
    simp
  · exact (s3.trans s4).trans ((SLe.refl _).new hl4)
/-- tuple(rows + [e]) -/
theorem ev_more (hr : ∀ S', EV X r δ S' (.r z)) (hz : S z = some (.lst (ds.map SV.d))) (he : EV X e δ S (.d d)) (hl : ds.length ≤ 100000) (se : St1 X e := by exact rfl) :
    EV X (.Call (.Name "tuple" p) [.BinOp r .Add (.List [e] p6) p5] [] pos) δ S (.d (.tuple (ds ++ [d]))) := by
  refine ev_forget (ew_tupleO (ew_catO (EV.use (hr S) (ew_lstO (AV.use (av_cons he av_nil se) ⟨sz_ok rfl, fun p2 h2 => ?_⟩)))) ?_)
  · have s1 := (SLe.refl S).new (o := .lst [.d d]) h2
    refine ⟨z, p2, _, _, rfl, rfl, s1 _ _ hz, supd_same, ?_, fun l hl2 => ⟨l, ds ++ [d], rfl, ?_, rfl, ?_⟩⟩
    · rw [List.length_map, List.length_singleton]
      unfold sizeLine; omega
    · rw [supd_same]; simp
    · exact s1.trans ((SLe.refl _).new hl2)
  · rfl
/-- tuple(reversed(rows + [e])) -/
theorem ev_back [g2 : GAt gs "reversed"] [f2 : Free Z "reversed"] (hr : ∀ S', EV X r δ S' (.r z)) (hz : S z = some (.lst (ds.map SV.d))) (he : EV X e δ S (.d d)) (hl : ds.length ≤ 100000) (se : St1 X e := by exact rfl) :
    EV X (.Call (.Name "tuple" p) [.Call (.Name "reversed" p2) [.BinOp r .Add (.List [e] p6) p5] [] p3] [] pos) δ S (.d (.tuple ((ds ++ [d]).reverse))) := by
  refine ev_forget (ew_tupRev (ew_catO (EV.use (hr S) (ew_lstO (AV.use (av_cons he av_nil se) ⟨sz_ok rfl, fun p2 h2 => ?_⟩)))) rfl rfl)
  have s1 := (SLe.refl S).new (o := .lst [.d d]) h2
  refine ⟨z, p2, _, _, rfl, rfl, s1 _ _ hz, supd_same, ?_, fun l hl2 => ⟨l, ds ++ [d], rfl, ?_, rfl, ?_⟩⟩
  · rw [List.length_map, List.length_singleton]
    unfold sizeLine; omega
  · rw [supd_same]; simp
  · exact s1.trans ((SLe.refl _).new hl2)
end
end
end K23
/-! the law's own defs, 11: bent *-/
namespace K23
open PySem PySem.Spec PyProof.Rows L2
theorem tab_lay {rs : List Row} (h : ∀ p ∈ rs, okT p.2) : lay 5 (.list (rs.map rowD)) := lay_lst fun d hd => by
  obtain ⟨p, hp, rfl⟩ := List.mem_map.mp hd
  exact (tame_row (h p hp)).1
theorem at_row {rs : List Row} {i : Int} {p : Row} (h0 : 0 ≤ i) (h : rs[i.toNat]? = some p) : atI ((rs.map rowD).map SV.d) i = some (.d (rowD p)) := by
  have z := at_sv (D := rowD) h
  rw [Int.toNat_of_nonneg h0] at z
  exact z
theorem set_row {rs : List Row} {n : Nat} {d : PyData} : ((rs.map rowD).map SV.d).set n (.d d) = ((rs.map rowD).set n d).map SV.d := by rw [List.map_set]
section
variable {Z : Zx} [W : W0 Z]
abbrev cBent : Ct := fun xs S R => ∃ (q : Addr) (m : Img) (rs : List Row), xs = [.r q, .d (tabD rs)] ∧ Dr S q ∧ PG m ∧ GoodT m rs ∧ ∀ (d : PyData) (b : Bool) S', (b = true → ∃ rs', d = tabD rs' ∧ GoodT m rs') → (b = false → isTableD m d = false ∧ tame 50 d) → Kp [q] S S' → Dr S' q → R (.d (.tuple [d, .bool b])) S'
set_option maxHeartbeats 16000000 in
instance ok__law_bent : HasFn Z "_law_bent" ["_law_draw_here", "_law_table"] 3 cBent := fn_intro sc__law_bent nm__law_bent (fun _ _ _ _ _ _ us hl => match us, hl with | [_, _], _ => rfl) (by tm_at "ctl") fun X B xs S R hc => by
  obtain ⟨q, m, rs, rfl, hD, pg, hG, hR⟩ := hc
  have hlen := tab_len pg hG.ok
  have good : ∀ rs' S', GoodT m rs' → Kp [q] S S' → Dr S' q → R (.d (.tuple [tabD rs', .bool true])) S' := fun rs' S' g k d => hR _ _ S' (fun _ => ⟨rs', rfl, g⟩) (fun h => by cases h) k d
  have bad : ∀ d S', isTableD m d = false → tame 50 d → Kp [q] S S' → Dr S' q → R (.d (.tuple [d, .bool false])) S' := fun d S' h t k dr => hR d false S' (fun h => by cases h) (fun _ => ⟨h, t⟩) k dr
  have hsh := lay_shp (tab_lay fun p hp => (hG.ok.2.2 p hp).2) (by decide)
  have hsh0 : shp (.list []) := lay_shp (lay_lst (n := 0) fun d hd => absurd hd List.not_mem_nil) (by decide)
  refine sws_cons <| sw_set <| ew_listTO (ds := rs.map rowD) (ev_var rfl) fun z hz => ?_
  have zq : z ≠ q := fun e => hD.some (by rw [← e]; exact hz)
  have zq' : z ∉ [q] := by simpa using zq
  have kz := (Kp.refl [q] S).new (o := .lst ((rs.map rowD).map SV.d)) hz
  have hD0 := hD.ne (o := .lst ((rs.map rowD).map SV.d)) zq
  have hz0 : (supd S z (.lst ((rs.map rowD).map SV.d))) z = some (.lst ((rs.map rowD).map SV.d)) := supd_same
  have kset : ∀ {T : Sto} {o : MO}, Kp [q] S T → Kp [q] S (supd T z o) := fun k a u n e => by
    rw [supd_ne (fun z' => by rw [z', hz] at e; cases e)]; exact k a u n e
  generalize supd S z (.lst ((rs.map rowD).map SV.d)) = S0 at *
  refine sws_cons <| sw_set <| ew_takeQ (ev_var rfl) hD0 ev_int (by decide) (by decide) fun k S1 k0 k1 hk1 hD1 => ?_
  have hz1 := hk1 z _ zq' hz0
  have kz1 := kz.trans hk1
  refine' sws_if2 (x := PyData.eqv (.list (rs.map rowD)) (.list []) || decide (k = 0)) ?a1 (fun h => ?b1) fun h => ?c1
  case a1 => exact tv_w (wv_or (tv_cmp (cv_eqO (ev_var rfl) hz1 (ev_lst av_nil rfl rfl) hsh hsh0)) fun _ => wv_or1 (by tm_at "tv"))
  case b1 => exact sws_one (sw_ret (EV.use (ev_tup (ds := [tabD rs, .bool true]) (by tm_at "av") rfl rfl) (good rs _ hG kz1 hD1)))
  have hne : 1 ≤ rs.length := by
    have h := (Bool.or_eq_false_iff.mp h).1
    rw [nil_eqv] at h
    cases rs with
    | nil => cases h
    | cons _ _ => simp
  clear h kz hz0 hD0 hk1
  refine' sws_if2 (x := decide (7 < k)) ?a2 (fun h => ?b2) fun h => ?c2
  case a2 => tm_at "tv"
  case b2 => exact sws_one (sw_ret (ew_tup (aw_cons (ew_call (by decide) (AV.use (av_cons (ev_var rfl) (av_cons (ev_var rfl) (av_cons (by tm_at "ev") av_nil))) ⟨q, m, rs, decide (k = 8), rfl, hD1, hG, fun rs' S' hG' hk' hD' => AV.use (av_cons ev_bl av_nil) ⟨[tabD rs', .bool true], rfl, sz_ok rfl, good rs' S' hG' (kz1.trans hk') hD'⟩⟩)))))
  clear h
  refine sws_cons <| sw_set <| ew_takeQ (ev_var rfl) hD1 (EV.is (ev_lenO (ev_var rfl) hz1) (by rw [List.length_map, List.length_map])) (by omega) (by omega) fun i S2 i0 i1 hk2 hD2 => ?_
  have hz2 := hk2 z _ zq' hz1
  have kz2 := kz1.trans hk2
  clear hz1 kz1 hD1 hk2 S1
  have hi : i.toNat < rs.length := by omega
  obtain ⟨⟨a, fs⟩, hrow⟩ : ∃ p, rs[i.toNat]? = some p := ⟨_, List.getElem?_eq_getElem hi⟩
  have hmem : (a, fs) ∈ rs := List.mem_of_getElem? hrow
  have hfs := (hG.ok.2.2 _ hmem).2
  have hfz := hG.z _ hmem
  have hfl : (fs.map Fact.D).length = 16 := by rw [List.length_map]; exact hfs.1
  have hpl := (hG.ok.2.2 _ hmem).1
  have hat := at_row i0 hrow
  have hix : ixN ((rs.map rowD).map SV.d).length i = some i.toNat := by
    have z2 := ixN_nat' hi
    rw [Int.toNat_of_nonneg i0] at z2
    rw [List.length_map, List.length_map]; exact z2
  refine sws_cons (sw_asg (EV.use (ev_ixO (v := .d (.tuple [.int a, FD fs])) (ev_var rfl) (ev_var rfl) hz2 hat) (gw_tup (gws_cons (gws_cons (gws_nil ?_))))))
  refine' sws_if2 (x := decide (k = 1)) ?a3 (fun h => ?b3) fun h => ?c3
  case a3 => tm_at "tv"
  case b3 =>
    refine sws_one (sw_ret (EV.use (ev_tup (ds := [.tuple ((rs.map rowD).take i.toNat ++ (rs.map rowD).drop (i.toNat + 1)), .bool true]) (av_cons (ev_cut2 (fun S' => ev_var rfl) (fun S' => ev_var rfl) hz2 (fun S' => ev_var rfl) (fun S' => by tm_at "ev") i0 (by rw [List.length_map]; omega)) (av_cons ev_bl av_nil)) rfl rfl) ?_))
    have e : (.tuple ((rs.map rowD).take i.toNat ++ (rs.map rowD).drop (i.toNat + 1)) : PyData) = tabD (rs.eraseIdx i.toNat) := by
      rw [List.eraseIdx_eq_take_drop_succ]
      unfold tabD
      rw [List.map_append, List.map_take, List.map_drop]
    rw [e]
    exact good _ _ (hG.sub (List.eraseIdx_sublist ..)) kz2 hD2
  clear h
  have cutL : ∀ {r : Int}, 1 ≤ r → r ≤ 15 → (cutD (fs.map Fact.D) none (some r)).length + (cutD (fs.map Fact.D) (some (r + 1)) none).length ≤ 15 := fun h1 h2 => by
    rw [cut_to (by omega), cut_from (by omega), List.length_take, List.length_drop, hfl]
    omega
  have cutM : ∀ {lo hi : Option Int}, ∀ d ∈ cutD (fs.map Fact.D) lo hi, d ∈ fs.map Fact.D := fun {lo hi} d hd => by
    unfold cutD at hd
    exact List.mem_of_mem_drop (List.mem_of_mem_take hd)
  refine' sws_if2 (x := decide (k < 5)) ?a4 (fun h => ?b4) fun h => ?c4
  case a4 => tm_at "tv"
  case b4 =>
    refine sws_cons <| sw_set <| ew_addI <| ev_int.use ⟨1, rfl, ew_takeQ (ev_var rfl) hD2 ev_int (by decide) (by decide) fun t S3 t0 t1 hk3 hD3 => ⟨t, rfl, ?_⟩⟩
    have hz3 := hk3 z _ zq' hz2
    have kz3 := kz2.trans hk3
    have hr1 : 1 ≤ 1 + t ∧ 1 + t ≤ 15 := by omega
    generalize 1 + t = r at *
    have c1 := cutL hr1.1 hr1.2
    refine sws_cons <| sw_asg <| ew_tup <| aw_cons <| (ev_var rfl).use <| aw_cons <| ew_catT <| ew_catT <| EV.use (ev_slT (ds := fs.map Fact.D) (ev_var rfl) ov_none (ov_some (ev_var rfl))) <| ew_tup <| aw_cons <| ew_call (by decide) (AV.use (av_cons (ev_var rfl) av_nil) ⟨q, rfl, hD3, fun f S4 hf hk4 hD4 => ?_⟩)
    refine aw_nil ⟨[f.D], rfl, sz_ok rfl, _, _, rfl, rfl, ?len, ?_⟩
    case len => show _ + 1 ≤ _; unfold sizeLine; omega
    have hz4 := hk4 z _ zq' hz3
    have kz4 := kz3.trans hk4
    refine EV.use (ev_slT (ds := fs.map Fact.D) (ev_var rfl) (ov_some (ev_add (ev_var rfl) ev_int)) ov_none) ⟨_, _, rfl, rfl, ?len, ?_⟩
    case len => rw [List.length_append]; show _ + 1 + _ ≤ _; unfold sizeLine; omega
    refine aw_nil ⟨[.int a, .tuple _], rfl, sz_ok rfl, ?_⟩
    rw [set_cut (by omega) (by rw [hfs.1]; omega)]
    refine gw_setL (EV.use (ev_var rfl) (EV.use (ev_var rfl) ⟨z, _, i.toNat, i, rfl, rfl, hz4, hix, ?_⟩))
    have e : ((rs.map rowD).map SV.d).set i.toNat (.d (.tuple [.int a, .tuple ((fs.set r.toNat f).map Fact.D)])) = ((rs.set i.toNat (a, fs.set r.toNat f)).map rowD).map SV.d := by
      rw [List.map_set (f := rowD), List.map_set (f := SV.d)]; rfl
    rw [e]
    exact sws_one (sw_ret (ew_tup (aw_cons (ew_tupleO ((ev_var rfl).use ⟨z, (rs.set i.toNat (a, fs.set r.toNat f)).map rowD, rfl, supd_same, AV.use (av_cons ev_bl av_nil) ⟨[tabD (rs.set i.toNat (a, fs.set r.toNat f)), .bool true], rfl, sz_ok rfl, good _ _ (hG.set hrow (okT_set hfs hf) (zH_set' hfz (by omega))) (kset kz4) (hD4.ne zq)⟩⟩)))))
  clear h
  refine sws_newL (xs := (bad1).map SV.d) (by tm_at "av") (sz_ok rfl) fun y hy => ?_
  have yz : z ≠ y := fun e => by rw [← e, hz2] at hy; cases hy
  have yq : y ≠ q := fun e => hD2.some (by rw [← e]; exact hy)
  have yS : S y = none := by
    cases e : S y with
    | none => rfl
    | some o => rw [kz2 y o (by simpa using yq) e] at hy; cases hy
  refine sws_setV (v := .d (.list badL)) (ev_frz (ew_catO (EV.use (ev_var rfl) (ew_lstO (AV.use (x := bad2.map SV.d) ?av ⟨sz_ok rfl, fun y2 hy2 => ?_⟩))))) ?_
  case av =>
    refine av_cons ev_int (av_cons ?e1 (av_cons ?e2 (av_cons ?e3 (av_cons ?e4 av_nil))))
    case e1 => tm_at "ev"
    case e2 => tm_at "ev"
    case e3 => tm_at "ev"
    case e4 => exact ev_tup (av_cons ev_str (av_cons (ev_tupRg (n := 17) ev_int (by decide) (by decide)) av_nil)) rfl rfl
  · have s1 := (SLe.refl (supd S2 y (.lst ((bad1).map SV.d)))).new (o := .lst ((bad2).map SV.d)) hy2
    exact ⟨y, y2, _, _, rfl, rfl, s1 _ _ supd_same, supd_same, Nat.le_of_ble_eq_true rfl, fun l hl => ⟨l, rfl, by rw [supd_same, ← List.map_append]; rfl, s1.trans ((SLe.refl _).new hl), sup_pn hl⟩⟩
  have hz3 : (supd S2 y (.lst ((bad1).map SV.d))) z = some (.lst ((rs.map rowD).map SV.d)) := by rw [supd_ne yz]; exact hz2
  have kz3 : Kp [q] S (supd S2 y (.lst ((bad1).map SV.d))) := kz2.new hy
  have hD3 := hD2.ne (o := .lst ((bad1).map SV.d)) yq
  generalize supd S2 y (.lst ((bad1).map SV.d)) = S3 at *
  clear hy yz yq yS hz2 kz2 hD2 S2
  refine' sws_if2 (x := decide (k < 7)) ?a5 (fun h => ?b5) fun h => ?c5
  case a5 => tm_at "tv"
  case b5 =>
    refine sws_cons <| sw_set <| ew_addI <| ev_int.use ⟨1, rfl, ew_takeQ (ev_var rfl) hD3 ev_int (by decide) (by decide) fun t S4 t0 t1 hk4 hD4 => ⟨t, rfl, ?_⟩⟩
    have hz4 := hk4 z _ zq' hz3
    have kz4 := kz3.trans hk4
    have hr1 : 1 ≤ 1 + t ∧ 1 + t ≤ 15 := by omega
    generalize 1 + t = r at *
    have c1 := cutL hr1.1 hr1.2
    refine sws_cons <| sw_asg <| ew_tup <| aw_cons <| (ev_var rfl).use <| aw_cons <| ew_catT <| ew_catT <| EV.use (ev_slT (ds := fs.map Fact.D) (ev_var rfl) ov_none (ov_some (ev_var rfl))) <| ew_tup <| aw_cons <| ew_ixD <| EV.use (ev_var rfl) <| ew_takeQ (ev_var rfl) hD4 (ev_lenL (ds := badL) (ev_var rfl)) (by decide) (by decide) fun j S5 j0 j1 hk5 hD5 => ?_
    have hj : j.toNat < badL.length := by have : (badL.length : Int) = 11 := rfl; omega
    have ⟨bn, bt⟩ := bad_no (List.getElem_mem hj)
    refine ⟨badL, j, badL[j.toNat], rfl, rfl, atIp j0 (List.getElem?_eq_getElem hj), ?_⟩
    generalize badL[j.toNat] = bd at *
    refine aw_nil ⟨[bd], rfl, sz_ok rfl, _, _, rfl, rfl, ?len, ?_⟩
    case len => show _ + 1 ≤ _; unfold sizeLine; omega
    have hz5 := hk5 z _ zq' hz4
    have kz5 := kz4.trans hk5
    refine EV.use (ev_slT (ds := fs.map Fact.D) (ev_var rfl) (ov_some (ev_add (ev_var rfl) ev_int)) ov_none) ⟨_, _, rfl, rfl, ?len, ?_⟩
    case len => rw [List.length_append]; show _ + 1 + _ ≤ _; unfold sizeLine; omega
    refine aw_nil ⟨[.int a, .tuple _], rfl, sz_ok rfl, ?_⟩
    have hrx : rowOkD m (rowX a (cutD (fs.map Fact.D) none (some r) ++ [bd] ++ cutD (fs.map Fact.D) (some (r + 1)) none)) = false := rowX_all (d := bd) (by simp) bn
    have htx : tame 10 (rowX a (cutD (fs.map Fact.D) none (some r) ++ [bd] ++ cutD (fs.map Fact.D) (some (r + 1)) none)) := tame_rowX hfs (fun d hd => by
      rcases List.mem_append.mp hd with hd | hd
      · rcases List.mem_append.mp hd with hd | hd
        · exact .inl (cutM d hd)
        · rw [List.mem_singleton.mp hd]; exact .inr bt
      · exact .inl (cutM d hd)) (by rw [List.length_append, List.length_append, List.length_singleton]; omega)
    refine gw_setL (EV.use (ev_var rfl) (EV.use (ev_var rfl) ⟨z, _, i.toNat, i, rfl, rfl, hz5, hix, ?_⟩))
    show SWs X _ _ (supd S5 z (.lst (((rs.map rowD).map SV.d).set i.toNat (.d (rowX a (cutD (fs.map Fact.D) none (some r) ++ [bd] ++ cutD (fs.map Fact.D) (some (r + 1)) none)))))) _
    generalize rowX a (cutD (fs.map Fact.D) none (some r) ++ [bd] ++ cutD (fs.map Fact.D) (some (r + 1)) none) = row at *
    rw [set_row]
    refine sws_one (sw_ret (ew_tup (aw_cons (ew_tupleO ((ev_var rfl).use ⟨z, (rs.map rowD).set i.toNat row, rfl, supd_same, AV.use (av_cons ev_bl av_nil) ⟨[.tuple ((rs.map rowD).set i.toNat row), .bool false], rfl, sz_ok rfl, ?_⟩⟩)))))
    refine bad _ _ (tab_bad (d := row) ?_ hrx) (tame_rows pg hG.ok (fun d hd => ?_) (by rw [List.length_set, List.length_map]; omega)) (kset kz5) (hD5.ne zq)
    · exact List.mem_iff_getElem?.mpr ⟨i.toNat, List.getElem?_set_self (by rw [List.length_map]; exact hi)⟩
    · rcases List.mem_or_eq_of_mem_set hd with e | e
      · exact .inl e
      · rw [e]; exact .inr htx
  clear h
  have hl1 : (rs.map rowD).length ≤ 100000 := by rw [List.length_map]; omega
  have a4 := (pg.bd _ ((pg.iff _).mp hpl)).2
  have c15 : (cutD (fs.map Fact.D) (some 1) none).length = 15 := by rw [cut_from (by decide), List.length_drop, hfl]; rfl
  have rmem : ∀ d ∈ (rs.map rowD).take i.toNat, d ∈ rs.map rowD := fun d hd => List.mem_of_mem_take hd
  have dmem : ∀ d ∈ (rs.map rowD).drop (i.toNat + 1), d ∈ rs.map rowD := fun d hd => List.mem_of_mem_drop hd
  have three : ∀ row, rowOkD m row = false → tame 10 row → isTableD m (.tuple ((rs.map rowD).take i.toNat ++ [row] ++ (rs.map rowD).drop (i.toNat + 1))) = false ∧ tame 50 (.tuple ((rs.map rowD).take i.toNat ++ [row] ++ (rs.map rowD).drop (i.toNat + 1))) := fun row h1 h2 => by
    refine ⟨tab_bad (d := row) (by simp) h1, tame_rows pg hG.ok (fun d hd => ?_) ?_⟩
    · rcases List.mem_append.mp hd with hd | hd
      · rcases List.mem_append.mp hd with hd | hd
        · exact .inl (rmem d hd)
        · rw [List.mem_singleton.mp hd]; exact .inr h2
      · exact .inl (dmem d hd)
    · rw [List.length_append, List.length_append, List.length_take, List.length_drop, List.length_map, List.length_singleton]
      omega
  have f1 : isTableD m (.tuple [tabD rs]) = false ∧ tame 50 (.tuple [tabD rs]) := ⟨tab_bad List.mem_cons_self row_tab, (tame_tup (n := 5) (fun d hd => by rw [List.mem_singleton.mp hd]; exact tab_tame hG.ok) (Nat.le_of_ble_eq_true rfl)).up (by decide)⟩
  have f2 : isTableD m .none = false ∧ tame 50 .none := ⟨rfl, tame_none.up (by decide)⟩
  have f3 : isTableD m (.int 5) = false ∧ tame 50 (.int 5) := ⟨rfl, (tame_int 5).up (by decide)⟩
  have f4 : isTableD m (.tuple ((rs.map rowD ++ [rowD (a, fs)]).reverse)) = false ∧ tame 50 (.tuple ((rs.map rowD ++ [rowD (a, fs)]).reverse)) := by
    refine ⟨rev_bad hmem, tame_rows pg hG.ok (fun d hd => ?_) (by rw [List.length_reverse, List.length_append, List.length_map, List.length_singleton]; omega)⟩
    rw [List.mem_reverse] at hd
    rcases List.mem_append.mp hd with e | e
    · exact .inl e
    · rw [List.mem_singleton.mp e]; exact .inl (List.mem_map.mpr ⟨_, hmem, rfl⟩)
  have f5 : isTableD m (.tuple (rs.map rowD ++ [rowX 2 (fs.map Fact.D)])) = false ∧ tame 50 (.tuple (rs.map rowD ++ [rowX 2 (fs.map Fact.D)])) := by
    refine ⟨tab_bad (d := rowX 2 (fs.map Fact.D)) (by simp) (rowX_place (no_place pg (by decide))), tame_rows pg hG.ok (fun d hd => ?_) (by rw [List.length_append, List.length_map, List.length_singleton]; omega)⟩
    rcases List.mem_append.mp hd with e | e
    · exact .inl e
    · rw [List.mem_singleton.mp e]; exact .inr (tame_rowX hfs (fun d hd => .inl hd) (by omega))
  have f6 := three (rowX a (cutD (fs.map Fact.D) (some 1) none)) (rowX_fs (rowFs_len (by omega))) (tame_rowX hfs (fun d hd => .inl (cutM d hd)) (by omega))
  have f7 := three (rowX a (.none :: cutD (fs.map Fact.D) (some 1) none)) (rowX_fs rowFs_none) (tame_rowX hfs (fun d hd => by
    rcases List.mem_cons.mp hd with e | e
    · rw [e]; exact .inr (tame_none.up (by decide))
    · exact .inl (cutM d e)) (by rw [List.length_cons]; omega))
  have f8 := three (rowX (a + 1) (fs.map Fact.D)) (rowX_place (no_place pg (by omega))) (tame_rowX hfs (fun d hd => .inl hd) (by omega))
  clear three rmem dmem
  refine sws_newL (xs := [.d (.tuple [tabD rs]), .d .none, .d (.int 5), .d (.tuple ((rs.map rowD ++ [rowD (a, fs)]).reverse)), .d (.tuple (rs.map rowD ++ [rowX 2 (fs.map Fact.D)]))]) ?av5 (sz_ok rfl) fun w hw => ?_
  case av5 =>
    refine av_cons (ev_tup (ds := [tabD rs]) (by tm_at "av") rfl rfl) (av_cons ev_non (av_cons ev_int (av_cons ?e4 (av_cons ?e5 av_nil))))
    case e4 => exact ev_back (ds := rs.map rowD) (d := rowD (a, fs)) (fun S' => ev_var rfl) hz3 (ev_ixO (ev_var rfl) (ev_var rfl) hz3 hat) hl1
    case e5 => exact ev_more (ds := rs.map rowD) (d := rowX 2 (fs.map Fact.D)) (fun S' => ev_var rfl) hz3 (ev_tup (ds := [.int 2, FD fs]) (av_cons ev_int (av_cons (ev_var rfl) av_nil)) rfl rfl) hl1
  have wz : z ≠ w := fun e => by rw [← e, hz3] at hw; cases hw
  have wq : w ≠ q := fun e => hD3.some (by rw [← e]; exact hw)
  have hzw : ∀ {o : MO}, (supd S3 w o) z = some (.lst ((rs.map rowD).map SV.d)) := fun {o} => by rw [supd_ne wz]; exact hz3
  have hDw : ∀ {o : MO}, Dr (supd S3 w o) q := hD3.ne wq
  have kzw : ∀ {o : MO}, Kp [q] S (supd S3 w o) := kz3.new hw
  generalize e6 : (PyData.tuple ((rs.map rowD).take i.toNat ++ [rowX a (cutD (fs.map Fact.D) (some 1) none)] ++ (rs.map rowD).drop (i.toNat + 1))) = F6 at *
  generalize e7 : (PyData.tuple ((rs.map rowD).take i.toNat ++ [rowX a (.none :: cutD (fs.map Fact.D) (some 1) none)] ++ (rs.map rowD).drop (i.toNat + 1))) = F7 at *
  generalize e8 : (PyData.tuple ((rs.map rowD).take i.toNat ++ [rowX (a + 1) (fs.map Fact.D)] ++ (rs.map rowD).drop (i.toNat + 1))) = F8 at *
  refine sws_app (v := .d F6) (ev_var rfl) supd_same ?f6 (by exact (by decide : (5 : Nat) < sizeLine)) ?_
  case f6 =>
    rw [← e6]
    exact ev_cut3 (fun S' => ev_var rfl) (fun S' => ev_var rfl) hzw (fun S' => ev_var rfl) (fun S' => ev_add (ev_var rfl) ev_int) (fun S' => ev_tup (ds := [.int a, .tuple (cutD (fs.map Fact.D) (some 1) none)]) (av_cons (ev_var rfl) (av_cons (ev_slT (ds := fs.map Fact.D) (ev_var rfl) (ov_some ev_int) ov_none) av_nil)) rfl rfl) i0 hl1
  rw [supd_supd]
  refine sws_app (v := .d F7) (ev_var rfl) supd_same ?f7 (by exact (by decide : (6 : Nat) < sizeLine)) ?_
  case f7 =>
    rw [← e7]
    exact ev_cut3 (fun S' => ev_var rfl) (fun S' => ev_var rfl) hzw (fun S' => ev_var rfl) (fun S' => ev_add (ev_var rfl) ev_int) (fun S' => ev_tup (ds := [.int a, .tuple (.none :: cutD (fs.map Fact.D) (some 1) none)]) (av_cons (ev_var rfl) (av_cons (ev_catT (ds := [.none]) (ev_tup (ds := [.none]) (av_cons ev_non av_nil) rfl rfl) (ev_slT (ds := fs.map Fact.D) (ev_var rfl) (ov_some ev_int) ov_none) (by rw [c15]; decide)) av_nil)) rfl rfl) i0 hl1
  rw [supd_supd]
  refine sws_app (v := .d F8) (ev_var rfl) supd_same ?f8 (by exact (by decide : (7 : Nat) < sizeLine)) ?_
  case f8 =>
    rw [← e8]
    exact ev_cut3 (fun S' => ev_var rfl) (fun S' => ev_var rfl) hzw (fun S' => ev_var rfl) (fun S' => ev_add (ev_var rfl) ev_int) (fun S' => ev_tup (ds := [.int (a + 1), .tuple (fs.map Fact.D)]) (av_cons (ev_add (ev_var rfl) ev_int) (av_cons (ev_var rfl) av_nil)) rfl rfl) i0 hl1
  rw [supd_supd]
  clear e6 e7 e8
  generalize (PyData.tuple ((rs.map rowD ++ [rowD (a, fs)]).reverse)) = F4 at *
  generalize (PyData.tuple (rs.map rowD ++ [rowX 2 (fs.map Fact.D)])) = F5 at *
  generalize (PyData.tuple [tabD rs]) = F1 at *
  have all : ∀ d ∈ [F1, .none, .int 5, F4, F5, F6, F7, F8], isTableD m d = false ∧ tame 50 d := fun d hd => by
    simp only [List.mem_cons, List.not_mem_nil, or_false] at hd
    rcases hd with e | e | e | e | e | e | e | e <;> subst e <;> assumption
  show SWs X _ _ (supd S3 w (.lst ([F1, .none, .int 5, F4, F5, F6, F7, F8].map SV.d))) _
  have hL : ([F1, .none, .int 5, F4, F5, F6, F7, F8] : List PyData).length = 8 := rfl
  generalize ([F1, .none, .int 5, F4, F5, F6, F7, F8] : List PyData) = FL at *
  have hw4 : (supd S3 w (.lst (FL.map SV.d))) w = some (.lst (FL.map SV.d)) := supd_same
  have hDw := @hDw (.lst (FL.map SV.d))
  have kzw := @kzw (.lst (FL.map SV.d))
  have wq' : w ∉ [q] := by simpa using wq
  refine sws_one (sw_ret (ew_tup (aw_cons (ew_ixL (EV.use (ev_var rfl) (ew_takeQ (ev_var rfl) hDw (EV.is (ev_lenO (ev_var rfl) hw4) (by rw [List.length_map, hL])) (by decide) (by decide) fun j S5 j0 j1 hk5 hD5 => ?_))))))
  have hj : j.toNat < FL.length := by rw [hL]; have : j < 8 := j1; omega
  have hb := all _ (List.getElem_mem hj)
  refine ⟨w, _, j, .d FL[j.toNat], rfl, rfl, hk5 w _ wq' hw4, ?_, AV.use (av_cons ev_bl av_nil) ⟨[FL[j.toNat], .bool false], rfl, sz_ok rfl, bad _ _ hb.1 hb.2 (kzw.trans hk5) hD5⟩⟩
  exact atIp j0 (by rw [List.getElem?_map, List.getElem?_eq_getElem hj]; rfl)
end
end K23
/-! the law's own defs, 12: law *-/
namespace K23
open PySem PySem.Spec PyProof.Rows L2
/-- the rule of a def, of a known function object -/
theorem fn_ok {Z : Zx} {x : Str} {st : Stmt} {N ps : List Str} {bs ls : List Bool} {gs : List Str} {k : Nat} {c : Ct} {f : Addr} {fd : FuncData} (F : FunD Z.K x x (defArgs st) (defBody st) (defScope st) [] [] f fd) (Sc : FnScope N ps (defScope st)) (hn : nmB true (defScope st) N bs ls gs = true)
    (bind : ∀ (kV doc pm : Value) (an : Option Addr) (cdv ct : Value) (us : List Value), us.length = ps.length → bindArgs (PySem.W.fnOf x x (defArgs st) (defBody st) (defScope st) .none kV doc pm an cdv ct) ⟨us, []⟩ = pure (ps.zip us))
    (hl : ∀ xs S R, c xs S R → xs.length = ps.length)
    (hb : ∀ X [Bd Z X N (defScope st) bs ls gs k] xs S R, c xs S R → SWs X (defBody st) (xs.map some ++ List.replicate (N.length - xs.length) none) S { nx := fun _ S' => R (.d .none) S', rt := R }) : FnOk Z.P Z.w Z.K Z.mg Z.base CX0 (k + 1) f fd ps (spC Z.K c) := by
  refine F.ok Sc (fun vs H Q E h => ?_) fun cdv A outer s H vs Q E hr h => ?_
  · obtain ⟨O, F', S, xs, R, M, r, hc, _⟩ := h
    rw [repL_len r]; exact hl _ _ _ hc
  · obtain ⟨O, F', S, xs, R, M, r, hc, q⟩ := h
    generalize hX : (cxOf CX0 Z.P Z.w Z.K Z.mg Z.base N x (defScope st) f cdv A outer s H E).nox = X
    have hK : X.K = Z.K := by subst hX; rfl
    have hs : X.env.scope = defScope st := by subst hX; rfl
    have B : Bd Z X N (defScope st) bs ls gs k := by
      refine ⟨by subst hX; rfl, by subst hX; rfl, hK, by subst hX; rfl, by subst hX; rfl, by subst hX; rfl, Sc.nd, hs, by subst hX; rfl, by subst hX; exact hr, by subst hX; rfl, fun i y h1 h2 => by rw [hs]; exact nm_vis hn h1 h2, fun i y h1 h2 => ?_, fun y hy => ?_⟩
      · rw [hs]
        refine ⟨?_, .inl (by subst hX; rfl)⟩
        rcases nm_loc hn h1 h2 with z | z
        · exact .inl z
        · exact .inr z.2
      · obtain ⟨z1, z2, z3⟩ := nm_gl hn hy
        refine ⟨?_, z2, z3⟩
        show X.env.scope.names.lookup y = some .globalImplicit
        rw [hs]; exact z1
    refine ⟨wpSs X (defBody st), PSs.nox ?_, ?_⟩
    · rw [hX]; exact pw_ss
    · refine hb X xs S R hc O (L2.start N vs) H F' _ (by rw [hK]; exact M) (by rw [hK]; exact slots0 r) ⟨?_, ?_, ?_, ?_⟩
      · rw [hK]
        exact fun δ' S' σ' H' F2 e M' s' z => q (.d .none) S' .non H' F2 e M' Dp.non z
      · rw [hK]; exact q
      · exact fun _ _ _ _ _ _ _ _ z => z.elim
      · exact fun _ _ _ _ _ _ _ _ z => z.elim
theorem val_mem {rs : List Row} (h : (rs.map (·.1)).Pairwise (· < ·)) {p : Row} (hp : p ∈ rs) : valT rs p.1 = some p.2 := by
  obtain ⟨i, hi⟩ := List.mem_iff_getElem?.mp hp
  exact valT_at h hi
theorem val_no {m : Img} (pg : PG m) {rs : List Row} (h : tabOk m rs) {a : Int} (ha : a % 4 ≠ 0) : valT rs a = none := by
  cases e : valT rs a with
  | none => rfl
  | some g => exact absurd (pg.bd _ ((pg.iff a).mp (h.2.2 _ (valT_mem e)).1)).2 ha
theorem due_head {a : Int} : ∀ rs : List Row, (((rs.filter fun p => decide (p.1 = a)).map fun p => FD p.2) ++ [.none])[0]? = some (optF (valT rs a))
  | [] => rfl
  | p :: rs => by
    show _ = some (optF (if p.1 = a then some p.2 else valT rs a))
    by_cases h : p.1 = a
    · rw [List.filter_cons_of_pos (by simpa using h), if_pos h]; rfl
    · rw [List.filter_cons_of_neg (by simpa using h), if_neg h]; exact due_head rs
theorem optF_noB (o : Option Facts) : noB (optF o) = true := by
  cases o with
  | none => rfl
  | some fs => exact FD_noB fs
theorem optF_lay (o : Option Facts) : lay 3 (optF o) := by
  cases o with
  | none => exact lay_none
  | some fs => exact FD_lay fs
theorem optF_refl (o : Option Facts) : PyData.eqv (optF o) (optF o) = true := (eqv_iff _ _ (optF_noB o) (optF_noB o)).mpr rfl
section
variable {Z : Zx} [W : W0 Z]
abbrev cLaw : Ct := fun xs S R => ∃ ns : List Int, xs = [.d (.list (ns.map PyData.int))] ∧ ns.length ≤ 1000 ∧ ∀ S', R (.d (.bool true)) S'
set_option maxHeartbeats 16000000 in
theorem law_ok {f : Addr} {fd : FuncData} (F : FunD Z.K "law" "law" (defArgs (top 98)) (defBody (top 98)) (defScope (top 98)) [] [] f fd) : FnOk Z.P Z.w Z.K Z.mg Z.base CX0 33 f fd ["_law_script"] (spC Z.K cLaw) := fn_ok F sc_law nm_law (fun _ _ _ _ _ _ us hl => match us, hl with | [_], _ => rfl) (by tm_at "ctl") fun X B xs S R hc => by
  obtain ⟨ns, rfl, hn, hR⟩ := hc
  refine sws_cons <| sw_set <| ew_call (by decide) (AV.use (av_cons (ev_var rfl) av_nil) ⟨ns, rfl, hn, fun q S1 _ _ hD1 => ?_⟩)
  refine sws_cons <| sw_set <| ew_call (by decide) (aw_cons <| (ev_var rfl).use <| aw_cons <| ew_addI <| ev_int.use ⟨2, rfl, ew_takeQ (ev_var rfl) hD1 ev_int (by decide) (by decide) fun t S2 t0 t1 _ hD2 => ⟨t, rfl, aw_nil ⟨q, 2 + t, rfl, hD2, ⟨by omega, by omega⟩, fun m0 S3 hg _ hD3 => ?_⟩⟩⟩)
  have pg0 := good_pg hg
  refine sws_cons (SW.mono (E := { nx := fun δ' S' => ∃ m : Img, PG m ∧ δ' = [some (.d (.list (ns.map PyData.int))), some (.r q), some (.d m.D), none, none, none, none, none, none, none, none, none, none, none] ∧ Dr S' q, rt := R, bk := fun _ _ => False, ct := fun _ _ => False }) ?st ?nx (fun _ _ h => h) (fun _ _ h => h.elim) fun _ _ h => h.elim)
  case st =>
    refine sw_ifW (tw_eqI (ew_takeQ (ev_var rfl) hD3 ev_int (by decide) (by decide) fun k S4 k0 k1 _ hD4 => ⟨k, rfl, ifB (fun h => ?_) fun h => sws_nil ⟨m0, pg0, rfl, hD4⟩⟩))
    refine sws_one <| sw_set <| ew_tup <| aw_cons <| EV.use (ev_ixT (ds := [.tuple (m0.segs.map Seg.D), .int m0.entry, .tuple []]) (ev_var rfl) ev_int rfl) <| aw_cons <| ew_addI <| EV.use (ev_ixT (ds := [.tuple (m0.segs.map Seg.D), .int m0.entry, .tuple []]) (ev_var rfl) ev_int rfl) ⟨_, rfl, ew_ixD <| EV.use (ev_lst (ds := ([2, 16384, 32768, 2147483648] : List Int).map PyData.int) (by tm_at "av") rfl rfl) <| ew_takeQ (ev_var rfl) hD4 ev_int (by decide) (by decide) fun j S5 j0 j1 _ hD5 => ?_⟩
    obtain ⟨x, hx, hat⟩ := atI_int (ns := [2, 16384, 32768, 2147483648]) j0 j1
    exact ⟨_, j, _, rfl, rfl, hat, x, rfl, AV.use (av_cons (ev_tup (ds := []) av_nil rfl rfl) av_nil) ⟨[.tuple (m0.segs.map Seg.D), .int (m0.entry + x), .tuple []], rfl, sz_ok rfl, ⟨m0.segs, m0.entry + x⟩, pg0.ent _, rfl, hD5⟩⟩
  rintro δ' S3 ⟨m, pg, rfl, hD3⟩
  have hm := pg.ok
  have pG := plain_good pg
  have pF := tab_form pg pG
  have pT := (tab_tame pG.ok).up (m := 50) (by decide)
  have pS := lay_shp (tab_tame pG.ok).1 (by decide)
  refine sws_setV (ev_call (by tm_at "av") ⟨m, rfl, hm, rfl, rfl⟩) ?_
  refine sws_setV (v := .d (FD nothing)) (EV.is (ev_catT (ev_tup (ds := [.tuple [.str "words", .tuple [.int 0]]]) (by tm_at "av") rfl rfl) (ev_repT (ds := [.none]) (i := 15) (ev_tup (ds := [.none]) (by tm_at "av") rfl rfl) ev_int (by decide) (by decide) (by decide) (by decide)) (by decide)) rfl) ?_
  have hcl0 := plain_closed pg
  refine sws_ifN (x := false || false) (tv_w (wv_or (TV.is (tv_cmp (cv_ne (ev_var rfl) (ev_tupleL (ev_lcM (D := PyData.int) (ts := placesF m) (F := fun a => rowD (a, nothing)) [("_law_address", 5)] [false, false, false, false, true, true, false, false, false, false, false, false, false, false] [false, false, false, false, false, true, false, false, false, false, false, false, false, false] [] (by decide +kernel) (by decide +kernel) (by decide) (iw_list (ev_call (by tm_at "av") ⟨m, rfl, hm, rfl, rfl⟩)) (by have := pg.len; unfold sizeLine; omega) fun X1 _ t ht => ev_tup (ds := [.int t, FD nothing]) (av_cons (ev_var rfl) (av_cons (ev_var rfl) av_nil)) rfl rfl)) pS ?sh)) ?va) fun _ => wv_or1 (TV.is (tv_cmp (cv_notB (x := closedF m (plainF m)) (ev_call (by tm_at "av") ⟨m, _, rfl, hm, pT, .inr ⟨plainF m, rfl, pF, pG.ok, rfl, rfl⟩⟩))) (by rw [hcl0]; rfl)))) rfl ?_
  case sh =>
    have e : (.tuple ((placesF m).map fun a => rowD (a, nothing)) : PyData) = tabD (plainF m) := by unfold tabD plainF; rw [List.map_map]; rfl
    rw [e]; exact pS
  case va =>
    have e : (.tuple ((placesF m).map fun a => rowD (a, nothing)) : PyData) = tabD (plainF m) := by unfold tabD plainF; rw [List.map_map]; rfl
    rw [e, tab_eqv.mpr rfl]; rfl
  refine sws_cons <| sw_set <| ew_call (by decide) (AV.use (by tm_at "av") ⟨m, rfl, hm, fun rs hs => ?_⟩)
  have ⟨hG, hcl⟩ := solve_good pg hs
  have tF := tab_form pg hG
  have tT := (tab_tame hG.ok).up (m := 50) (by decide)
  have hlen := tab_len pg hG.ok
  have hasc := hG.ok.2.1
  refine sws_ifN (x := false) (TV.is (tv_cmp (cv_notB (x := closedF m rs) (ev_call (by tm_at "av") ⟨m, _, rfl, hm, tT, .inr ⟨rs, rfl, tF, hG.ok, rfl, rfl⟩⟩))) (by rw [hcl]; rfl)) rfl ?_
  refine sws_cons (sw_forT (D := rowD) (ts := rs) (iw_tup (ev_var rfl))
    (fun r δ' S' => ∃ (u v : Option SV), (∀ p ∈ r, p ∈ rs) ∧ δ' = [some (.d (.list (ns.map PyData.int))), some (.r q), some (.d m.D), some (.d (tabD (plainF m))), some (.d (FD nothing)), u, some (.d (tabD rs)), v, none, none, none, none, none, none] ∧ S' = S3)
    ⟨none, none, fun _ h => h, rfl, rfl⟩ (fun _ _ _ _ => trivial) ?_ ?_)
  · rintro ⟨a, fs⟩ r δ' S' ⟨u, v, hsub, rfl, rfl⟩
    have hp := hsub _ List.mem_cons_self
    have hv := val_mem hasc hp
    dsimp only at hv
    have hk := hG.ok.2.2 _ hp
    have hv2 : valT rs (a + 1) = none := val_no pg hG.ok (by have := (pg.bd _ ((pg.iff _).mp hk.1)).2; omega)
    refine gw_tup (gws_cons (gws_cons (gws_nil ?_)))
    refine sws_ifN (x := false || false) (tv_w (wv_or (TV.is (tv_cmp (cv_ne (x := FD fs) (EV.is (ev_call (v := .d (optF (valT rs a))) (by tm_at "av") ⟨rs, a, rfl, by omega, hasc, rfl, rfl⟩) (by rw [hv]; rfl)) (ev_var rfl) (lay_shp (FD_lay fs) (by decide)) (lay_shp (FD_lay fs) (by decide)))) (by rw [FD_eqv.mpr rfl]; rfl)) fun _ => wv_or1 (tv_cmp (cv_notN (x := .none) (EV.is (ev_call (v := .d (optF (valT rs (a + 1)))) (by tm_at "av") ⟨rs, a + 1, rfl, by omega, hasc, rfl, rfl⟩) (by rw [hv2]; rfl)))))) rfl (sws_nil ⟨_, _, fun p hp => hsub p (List.mem_cons_of_mem _ hp), rfl, rfl⟩)
  rintro δ' S' ⟨u, v, _, rfl, rfl⟩
  refine sws_cons (sw_forT (D := PyData.int) (ts := [0, m.entry + 2, 4294967295, 40000]) (iw_list (ev_lst (ds := ([0, m.entry + 2, 4294967295, 40000] : List Int).map PyData.int) (av_cons ev_int (av_cons (ev_add (ev_ixT (ds := [.tuple (m.segs.map Seg.D), .int m.entry, .tuple []]) (ev_var rfl) ev_int rfl) ev_int) (av_cons ev_int (av_cons ev_int av_nil)))) rfl rfl))
    (fun r δ2 S2 => ∃ (x y : Option SV), δ2 = [some (.d (.list (ns.map PyData.int))), some (.r q), some (.d m.D), some (.d (tabD (plainF m))), some (.d (FD nothing)), x, some (.d (tabD rs)), v, y, none, none, none, none, none] ∧ S2 = S')
    ⟨u, none, rfl, rfl⟩ (fun _ _ _ _ => trivial) ?_ ?_)
  · rintro a r δ2 S2 ⟨x, y, rfl, rfl⟩
    refine ew_tg ?_
    refine sws_setV (v := .d (.list (((rs.filter fun p => decide (p.1 = a)).map fun p => FD p.2) ++ [.none]))) (ev_frz (ew_catO (ew_lcF (D := rowD) (ts := rs) (P := fun p => decide (p.1 = a)) (F := fun p => FD p.2) [("_law_row", 13)] [false, false, false, false, false, true, false, false, false, false, false, false, false, true] [false, false, false, false, false, false, false, false, false, false, false, false, false, true] [] (by decide +kernel) (by decide +kernel) (by decide) (iw_tup (ev_var rfl)) (by unfold sizeLine; omega) (fun X1 _ p hp => tv_cmp (cv_eqI (ev_ixT (ds := [.int p.1, FD p.2]) (ev_var rfl) ev_int rfl) (ev_var rfl))) (fun X1 _ p hp _ => ev_ixT (ds := [.int p.1, FD p.2]) (ev_var rfl) ev_int rfl) fun p1 h1 => ew_lstO (AV.use (av_cons ev_non av_nil) ⟨sz_ok rfl, fun p2 h2 => ?_⟩)))) ?_
    · have s1 := (SLe.refl S2).new (o := .lst (((rs.filter fun p => decide (p.1 = a)).map fun p => FD p.2).map SV.d)) h1
      have s2 := (SLe.refl (supd S2 p1 (.lst (((rs.filter fun p => decide (p.1 = a)).map fun p => FD p.2).map SV.d)))).new (o := .lst [.d .none]) h2
      refine ⟨p1, p2, _, _, rfl, rfl, s2 _ _ supd_same, supd_same, ?_, fun l hl => ⟨l, rfl, by rw [supd_same, List.map_append]; rfl, (s1.trans s2).trans ((SLe.refl _).new hl), sup_pn (sup_pn hl)⟩⟩
      have hfl := List.length_filter_le (fun p : Row => decide (p.1 = a)) rs
      rw [List.length_map, List.length_map]
      show _ + 1 ≤ _
      unfold sizeLine; omega
    have hd := due_head (a := a) rs
    generalize ((rs.filter fun p => decide (p.1 = a)).map fun p => FD p.2) ++ [.none] = due at *
    refine sws_ifN (x := false || false) (tv_w (wv_or (TV.is (tv_cmp (cv_ne (x := optF (valT rs a)) (ev_call (by tm_at "av") ⟨rs, a, rfl, by omega, hasc, rfl, rfl⟩) (ev_ixL (d := optF (valT rs a)) (ev_var rfl) ev_int (atIp (by decide) hd)) (lay_shp (optF_lay _) (by decide)) (lay_shp (optF_lay _) (by decide)))) (by rw [optF_refl]; rfl)) fun _ => wv_or1 (TV.is (tv_cmp (cv_notN (x := optF (valT [] a)) (ev_call (xs := [.d (tabD []), .d (.int a)]) (av_cons (ev_tup (ds := []) av_nil rfl rfl) (av_cons (ev_var rfl) av_nil)) ⟨[], a, rfl, by decide, List.Pairwise.nil, rfl, rfl⟩))) rfl))) rfl (sws_nil ⟨_, _, rfl, rfl⟩)
  rintro δ2 S2 ⟨x, y, rfl, rfl⟩
  refine sws_cons (sw_forT (D := fun i : Nat => .int (0 + (i : Int))) (ts := List.range 3) (iw_range1 (n := 3) ev_int (by decide) (by decide))
    (fun r δ3 S3 => ∃ (a b c d : Option SV), δ3 = [some (.d (.list (ns.map PyData.int))), some (.r q), some (.d m.D), some (.d (tabD (plainF m))), some (.d (FD nothing)), x, some (.d (tabD rs)), v, y, a, b, c, d, none] ∧ Dr S3 q)
    ⟨none, none, none, none, rfl, hD3⟩ (fun _ _ _ _ => trivial) ?_ ?_)
  · rintro t r δ3 S3 ⟨a, b, c, d, rfl, hD⟩
    refine ew_tg ?_
    refine sws_cons <| sw_asg <| ew_call (by decide) <| aw_cons <| (ev_var rfl).use <| aw_cons <| ew_ixD <| EV.use (ev_lst (ds := [tabD rs, tabD (plainF m)]) (by tm_at "av") rfl rfl) <| ew_fdivI <| ew_takeQ (ev_var rfl) hD ev_int (by decide) (by decide) fun k S4 k0 k1 _ hD4 => ⟨k, rfl, ev_int.use ⟨3, rfl, ⟨by decide, by decide⟩, ?_⟩⟩
    have pick : ∃ rs', atI [tabD rs, tabD (plainF m)] (k / 3) = some (tabD rs') ∧ GoodT m rs' := by
      by_cases h : k / 3 = 0
      · exact ⟨rs, by rw [h]; rfl, hG⟩
      · have h : k / 3 = 1 := by omega
        exact ⟨plainF m, by rw [h]; rfl, pG⟩
    obtain ⟨rs', hat, hG'⟩ := pick
    refine ⟨_, _, _, rfl, rfl, hat, aw_nil ⟨q, m, rs', rfl, hD4, pg, hG', fun d b S5 h1 h2 _ hD5 => ?_⟩⟩
    refine gw_tup (gws_cons (gws_cons (gws_nil ?_)))
    cases b with
    | true =>
      obtain ⟨rs2, rfl, g2⟩ := h1 rfl
      refine sws_setV (v := .d (.bool (closedF m rs2))) (ev_call (by tm_at "av") ⟨m, _, rfl, hm, (tab_tame g2.ok).up (by decide), .inr ⟨rs2, rfl, tab_form pg g2, g2.ok, rfl, rfl⟩⟩) ?_
      refine sws_ifN (x := !true || !(closedF m rs2 == (true && closedF m rs2))) (tv_w (wv_or (tv_not (tv_val (ev_isi (d := .bool (closedF m rs2)) (t := "bool") (by decide +kernel) (ev_var rfl) kBB))) fun _ => wv_or1 (tv_cmp (cv_neB (ev_var rfl) (ev_andV (ev_var rfl) fun _ => ev_one (ev_call (by tm_at "av") ⟨m, rs2, rfl, pg, g2.ok, rfl, rfl⟩)))))) (by cases closedF m rs2 <;> rfl) (sws_nil ⟨_, _, _, _, rfl, hD5⟩)
    | false =>
      obtain ⟨n1, n2⟩ := h2 rfl
      refine sws_setV (v := .d (.bool false)) (ev_call (by tm_at "av") ⟨m, d, rfl, hm, n2, .inl ⟨n1, rfl, rfl⟩⟩) ?_
      refine sws_ifN (x := !true || !(false == (false && false))) (tv_w (wv_or (tv_not (tv_val (ev_isi (d := .bool false) (t := "bool") (by decide +kernel) (ev_var rfl) kBB))) fun _ => wv_or1 (tv_cmp (cv_neB (ev_var rfl) (ev_andV (y := false) (ev_var rfl) fun h => by cases h))))) rfl (sws_nil ⟨_, _, _, _, rfl, hD5⟩)
  · rintro δ3 S3 ⟨a, b, c, d, rfl, hD⟩
    exact sws_one (sw_ret (EV.use ev_bl (hR _)))
end
end K23
/-! the end -/
namespace K23
open PySem PySem.Spec PyProof.Rows L2
theorem law_sp {K : Fg} {H : Hp} {a : Addr} {ns : List Int} (hn : ns.length ≤ 63) (hS : SqL K H a (ns.map V.int)) : spC K cLaw [.ref a] H (fun v _ => v = .bl true) fun _ _ _ => False := by
  refine ⟨fun _ => none, H, fun _ => none, [.d (.list (ns.map PyData.int))], fun v _ => v = .d (.bool true), ⟨fun a o e => (by cases e), Same.refl _, fun a o e => (by cases e), fun a o e => (by cases e)⟩, .cons (show Dp K H (.ref a) (.list (ns.map PyData.int)) from .lst hS (dp_ints ns)) .nil, ⟨ns, rfl, by omega, fun S' => rfl⟩, fun x S' v H' F' _ _ r e => ?_⟩
  subst e
  cases r
  rfl
theorem facts {P : Program} {w : World} {K : Fg} {h : Heap} {mg : Str → Option Value} {f : Addr} (KX : K.In h) (G : h.Ns mainGlobals mg) (hfa : mg ("law" : Str) = some (.ref f)) (c : SaysX w K) :
    ∃ fd : FuncData, (∀ (s : Shared) (v : Value), BindsTo s fd ⟨[v], []⟩ [("_law_script", v)]) ∧ ∀ base : Heap, K.In base → base.Ns mainGlobals mg → FnOk P w K mg base CX0 33 f fd ["_law_script"] (spC K cLaw) := by
  have W : ∀ base, W0 ⟨P, w, K, mg, base⟩ := fun base => ⟨c, h, KX, G⟩
  haveI := W h
  obtain ⟨f', fd, F, hm⟩ := (df_law (Z := ⟨P, w, K, mg, h⟩)).h
  have e := hfa.symm.trans hm
  cases e
  have b := FunD.bindsA (ps := ["_law_script"]) F fun _ _ _ _ _ _ us hl => match us, hl with | [_], _ => rfl
  exact ⟨fd, fun s v => b s [v] rfl, fun base _ _ => by
    haveI := W base
    exact law_ok (Z := ⟨P, w, K, mg, base⟩) F⟩
end K23
open PySem PySem.W PySem.Calls PyProof.Rows
theorem PySem.Challenge.cw_restitch_k23_tables_that_hold_holds : PySem.Challenge.rw_restitch_k23_tables_that_hold.Holds := by
  w_on; o_law
  refine HandSHeadRun.head_any (r := OpenLaw.row PySem.Challenge.rw_restitch_k23_tables_that_hold) (q := view (OpenLaw.row PySem.Challenge.rw_restitch_k23_tables_that_hold).prog [98]) (H := K23.hk) (ob := K23.ob) (M := 4000) (loose := K23.loose) (d := HandSHeadRun.topDef (OpenLaw.row PySem.Challenge.rw_restitch_k23_tables_that_hold).prog 98) (kwd := []) K23.ob_eq
    (by kernel_rfl) (fun s => by kernel_rfl) K23.run (by kernel_rfl) (by kernel_rfl) (by kernel_rfl) (by rfl) (by first | assumption | decide +kernel) (by decide +kernel) ⟨rfl, rfl, rfl, rfl, rfl, by decide +kernel⟩ ?hw ?hc
  case hw => w_witness2
  case hc =>
    refine L2.walk_ofE (l := PySem.Challenge.rw_restitch_k23_tables_that_hold) (n := 63) (k := 33) (x := "_law_script") (CX := L2.CX0) rfl (by decide) (by kernel_rfl) ⟨rfl, by decide, by decide⟩ ?F (fun _ _ _ _ z => z)
    intro w mg fa h Y G hmg0
    obtain ⟨K, KX, c⟩ := Y
    have hmg : mg ("law" : PySem.Str) = some (.ref fa) := by
      have e : (HandSHeadRun.topDef (OpenLaw.row PySem.Challenge.rw_restitch_k23_tables_that_hold).prog 98).name = ("law" : PySem.Str) := by kernel_rfl
      rw [← e]
      exact hmg0
    obtain ⟨fd, hb, hF⟩ := K23.facts (P := (PySem.Challenge.rw_restitch_k23_tables_that_hold).prog) (w := w) KX G hmg c
    exact ⟨K, fd, K23.spC K K23.cLaw, KX, hb, fun H a ns hl _ hS => K23.law_sp hl hS, hF⟩
